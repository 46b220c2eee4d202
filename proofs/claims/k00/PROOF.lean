import PyProof.Rows.All
import Wide.All
import OpenK.AllK
import Wide.FinOn
import HandS.ForMost
import HandS.Flow
import HandS.Conv
import HandS.TupAny
import HandS.TupMul
import HandS.Style
import HandS.Zip
import KE.KeyNested
import KE.KDictKeyed
import HandS.Lambda
import HandS.Star
import HandS.NoneIn
import HandS.Property
import HandS.Wide
import HandS.Deep
import PyProof.Rows.RuleB_pow
import HandS.Dict
import HandS.ReCall
import HandS.TupLen
import KE.KExcIs
import HandS.IsInst
import KE.KDictDisplayH
import KE.GoesNew
import KE.GoesDict
import KE.GoesNewDict
import HandS.Iter
import HandS.TupSets
import KE.SortData
import PyProof.TupleOfStr
import HandS.ExcValue
import OpenK.KMeth
import HandS.Ends
import HandS.HeadEnd
import HandS.HeadNt
import HandS.Head2
import HandS.HeadHook4
import PyProof.ListStr
import KE.IntBitsLaws
import PyProof.StrLawsIn
import PyProof.StrLawsChain
import HandS.OwnEq
import HandS.Defaults
import KE.GoesZip
import KE.KItemsList
import KE.GoesEnum
import HandS.Codes
import PyProof.Rows.RegReprOcc
import KE.KDictPairs
import KE.KDictZip
import KE.GoesMore
import KE.KExcSuper
import HandS.ExcInit
import HandS.ExcIs
import HandS.ExcField
import HandS.EndTab
import HandS.Head0
import HandS.Head1
import KE.KStateDown
import PySem.Challenge.RW_lostmetres_k00_errors_keep_their_values
set_option Elab.async false
set_option linter.all false
set_option maxRecDepth 100000
set_option maxHeartbeats 0
namespace DL
open PySem PySem.Spec PyProof.Rows L2
/-- a value: tuples are trees, what may change is told by its number -/
inductive PV where
  | non | bl (b : Bool) | int (i : Int) | str (x : Str) | tup (xs : List PV) | ref (i : Nat) | ty (n : String) | glb (a : Addr) | exc (C : Addr) (v : PV)
  deriving Inhabited
/-- what may change -/
inductive MObj where
  | lst (xs : List PV)
  | rol (xs : List PV)
  | dct (kvs : List (PV × PV))
  | ins (C : Addr) (fs : List (Str × PV))
  deriving Inhabited
abbrev Sto := List MObj
abbrev Env' := List (Option PV)
/-- how a reckoning ends -/
inductive Rz (α : Type) where
  | ok (a : α) (μ : Sto)
  | err (C : Addr) (v : PV) (μ : Sto)
  | bad
namespace Rz
def bind {α β : Type} (r : Rz α) (f : α → Sto → Rz β) : Rz β := match r with
  | .ok a μ => f a μ
  | .err C v μ => .err C v μ
  | .bad => .bad
@[simp] theorem bind_ok {α β : Type} (a : α) (μ : Sto) (f : α → Sto → Rz β) : (Rz.ok a μ).bind f = f a μ := rfl
@[simp] theorem bind_err {α β : Type} (C : Addr) (v : PV) (μ : Sto) (f : α → Sto → Rz β) : (Rz.err C v μ).bind f = Rz.err C v μ := rfl
@[simp] theorem bind_bad {α β : Type} (f : α → Sto → Rz β) : (Rz.bad : Rz α).bind f = Rz.bad := rfl
end Rz
mutual
def bareP : PV → Bool
  | .ref _ => false
  | .tup ps => bareL ps
  | .exc _ v => bareP v
  | _ => true
def bareL : List PV → Bool
  | [] => true
  | p :: ps => bareP p && bareL ps
end
section
variable (K : PySem.W.Frag) (ρ : List Addr) (H : Hp)
mutual
/-- a value of trees lies in the heap as the layer's value -/
inductive RV : PV → V → Prop
  | non : RV .non .non
  | bl (b : Bool) : RV (.bl b) (.bl b)
  | int (i : Int) : RV (.int i) (.int i)
  | str (x : Str) : RV (.str x) (.str x)
  | ty (n : String) : RV (.ty n) (.ty n)
  | glb (a : Addr) : RV (.glb a) (.ref a)
  | ref {i : Nat} {a : Addr} : ρ[i]? = some a → RV (.ref i) (.ref a)
  | tup {ps : List PV} {vs : List V} {a : Addr} : SqT K H a vs → RVs ps vs → RV (.tup ps) (.ref a)
  | exc {C a d : Addr} {oe od : Obj} {fs : Array Value} {p : PV} {x : V} : H a = some (.frz oe (.own a)) → oe.cls = .ref C → oe.dict = some d → oe.data = .fields fs → H d = some (.frz od (.xd [("value", x)])) → RV p x → RV (.exc C p) (.ref a)
inductive RVs : List PV → List V → Prop
  | nil : RVs [] []
  | cons {p : PV} {v : V} {ps : List PV} {vs : List V} : RV p v → RVs ps vs → RVs (p :: ps) (v :: vs)
end
end
mutual
theorem bare_rv {K : PySem.W.Frag} {ρ ρ' : List Addr} {H : Hp} : ∀ {p : PV} {v : V}, bareP p = true → RV K ρ H p v → RV K ρ' H p v
  | _, _, _, .non => .non
  | _, _, _, .bl b => .bl b
  | _, _, _, .int i => .int i
  | _, _, _, .str x => .str x
  | _, _, _, .ty n => .ty n
  | _, _, _, .glb a => .glb a
  | _, _, h, .ref _ => by cases h
  | _, _, h, .tup e r => .tup e (bare_rvs (by rw [bareP] at h; exact h) r)
  | _, _, h, .exc e1 e2 e3 e4 e5 r => .exc e1 e2 e3 e4 e5 (bare_rv (by rw [bareP] at h; exact h) r)
theorem bare_rvs {K : PySem.W.Frag} {ρ ρ' : List Addr} {H : Hp} : ∀ {ps : List PV} {vs : List V}, bareL ps = true → RVs K ρ H ps vs → RVs K ρ' H ps vs
  | _, _, _, .nil => .nil
  | _, _, h, .cons r t => by
    rw [bareL, Bool.and_eq_true] at h
    exact .cons (bare_rv h.1 r) (bare_rvs h.2 t)
end
/-- a dict by its very object -/
abbrev dO (a : Addr) (o : Obj) : HO := .ext fun h => h.get? a = some o
/-- dicts grow, and where they do not, their keys stay -/
def DKeep (H H' : Hp) : Prop := ∀ b o es ep, H b = some (dO b o) → o.data = .dict es ep → ∃ o' es' ep', H' b = some (dO b o') ∧ o'.data = .dict es' ep' ∧ es.size ≤ es'.size ∧ (es'.size = es.size → ep' = ep)
/-- what is written at a is no dict, or the dict grown -/
def DW (H : Hp) (a : Addr) (u : HO) : Prop := ∀ o es ep, H a = some (dO a o) → o.data = .dict es ep → ∃ o' es' ep', u = dO a o' ∧ o'.data = .dict es' ep' ∧ es.size ≤ es'.size ∧ (es'.size = es.size → ep' = ep)
theorem DKeep.refl {H : Hp} : DKeep H H := fun b o es ep h e => ⟨o, es, ep, h, e, Nat.le_refl _, fun _ => rfl⟩
theorem DKeep.trans {H H1 H2 : Hp} (a : DKeep H H1) (b : DKeep H1 H2) : DKeep H H2 := fun x o es ep h e => by
  obtain ⟨o1, es1, ep1, h1, e1, l1, k1⟩ := a x o es ep h e
  obtain ⟨o2, es2, ep2, h2, e2, l2, k2⟩ := b x o1 es1 ep1 h1 e1
  refine ⟨o2, es2, ep2, h2, e2, Nat.le_trans l1 l2, fun z => ?_⟩
  rw [k2 (by omega), k1 (by omega)]
theorem DKeep.upd {H : Hp} {p : Addr} {u : HO} (hd : DW H p u) : DKeep H (upd H p u) := fun b o es ep h e => by
  by_cases c : b = p
  · subst c
    obtain ⟨o', es', ep', h1, h2⟩ := hd o es ep h e
    exact ⟨o', es', ep', by rw [upd_same, h1], h2⟩
  · exact ⟨o, es, ep, by rw [upd_ne c]; exact h, e, Nat.le_refl _, fun _ => rfl⟩
theorem DW.none {H : Hp} {a : Addr} {u : HO} (h : H a = none) : DW H a u := fun o es ep e => by rw [h] at e; cases e
theorem DW.lst {H : Hp} {a : Addr} {u : HO} {vs : List V} (h : H a = some (.lst vs)) : DW H a u := fun o es ep e => by rw [h] at e; cases e
theorem DW.ins {H : Hp} {a C dx : Addr} {u : HO} {gs : List (Str × V)} (h : H a = some (.ins C dx gs)) : DW H a u := fun o es ep e => by rw [h] at e; cases e
/-- the tables of code objects that are left out of the written part: of code for what is made within a def -/
def tabK (K : PySem.W.Frag) (p : Addr × Obj) : Option (Addr × Str) := match p.2.cls, p.2.data with
  | .type t, .fields vs => if t = "code" then match (vs[11]? : Option Value), (vs[1]? : Option Value) with
    | some (Value.ref P), some (Value.str q _) => match K.lookup P with
      | none => some (P, q ++ ".<locals>." ++ "<lambda>")
      | some _ => none
    | _, _ => none
    else none
  | _, _ => none
def tabsK (K : PySem.W.Frag) : List (Addr × Str) := K.filterMap (tabK K)
/-- no table of code objects -/
def NT (o : HO) : Prop := ∀ ps, o ≠ .tbl ps
/-- at P, without a number, stands a table of code objects, all of the name q, none with a number -/
structure TabR (ρ : List Addr) (H : Hp) (P : Addr) (q : Str) : Prop where
  un : P ∉ ρ
  ex : ∃ ps : Array Value, H P = some (.tbl ps) ∧ TriplesOk ps.toList ∧ ∀ (pos : Pos) (cv : Value), codeAmong pos ps.toList = some cv → ∃ c, (cv = .ref c ∧ c ∉ ρ) ∧ H c = some (LamX.CodeO c q)
theorem TabR.to {ρ ρ' : List Addr} {H H' : Hp} {P : Addr} {q : Str} (h : TabR ρ H P q) (n : ∀ x, x ∉ ρ → H x ≠ none → x ∉ ρ') (k : ∀ x o, x ∉ ρ → H x = some o → (o = LamX.CodeO x q ∨ ∃ ps, o = .tbl ps) → H' x = some o) : TabR ρ' H' P q := by
  obtain ⟨un, ps, e, tr, cs⟩ := h
  refine ⟨n P un (by rw [e]; exact fun z => nomatch z), ps, k P _ un e (.inr ⟨ps, rfl⟩), tr, fun pos cv hc => ?_⟩
  obtain ⟨c, ⟨e1, e2⟩, e3⟩ := cs pos cv hc
  exact ⟨c, ⟨e1, n c e2 (by rw [e3]; exact fun z => nomatch z)⟩, k c _ e2 e3 (.inl rfl)⟩
/-- a dict is no code object -/
theorem dO_code {p : Addr} {o : Obj} {q : Str} {es : Array DictEntry} {ep : Nat} (h : o.data = .dict es ep) : dO p o ≠ LamX.CodeO p q := fun z => by
  have z2 : (fun h : Heap => h.get? p = some o) = (fun h => ∃ (oc : Obj) (vs : Array Value) (t : Tok), h.get? p = some oc ∧ oc.data = .fields vs ∧ vs[1]? = some (.str q t)) := HO.ext.inj z
  have g : (⟨Array.replicate (p + 1) o, default⟩ : Heap).get? p = some o := by
    obtain ⟨c, d, dt, sl⟩ := o
    have h : dt = .dict es ep := h
    subst h
    unfold Heap.get?
    rw [Array.getElem?_replicate, if_pos (Nat.lt_succ_self p)]
  obtain ⟨oc, vs, t, e, d, _⟩ := (congrFun z2 _).mp g
  rw [g] at e
  cases e
  rw [h] at d
  cases d
/-- neither a code object nor a table -/
def NC (D : Addr) (o : HO) : Prop := (∀ q, o ≠ LamX.CodeO D q) ∧ NT o
theorem nc_lst {D : Addr} {vs : List V} : NC D (.lst vs) := ⟨fun q z => (by have z' : HO.lst vs = HO.ext _ := z; cases z'), fun _ z => nomatch z⟩
theorem nc_ins {D C dx : Addr} {gs : List (Str × V)} : NC D (.ins C dx gs) := ⟨fun q z => (by have z' : HO.ins C dx gs = HO.ext _ := z; cases z'), fun _ z => nomatch z⟩
theorem nc_frz {D : Addr} {o : Obj} {u : HO} : NC D (.frz o u) := ⟨fun q z => (by have z' : HO.frz o u = HO.ext _ := z; cases z'), fun _ z => nomatch z⟩
theorem nc_dct {D : Addr} {o : Obj} {es : Array DictEntry} {ep : Nat} (h : o.data = .dict es ep) : NC D (dO D o) := ⟨fun _ => dO_code h, fun _ z => nomatch z⟩
theorem NC.code {D : Addr} {o : HO} {H : Hp} (n : NC D o) (h : H D = some o) (q : Str) : H D ≠ some (LamX.CodeO D q) := fun z => n.1 q (Option.some.inj (h.symm.trans z))
theorem TabR.num {ρ : List Addr} {H : Hp} {P D : Addr} {q : Str} {o : HO} (h : TabR ρ H P q) (e : H D = some o) (n : NC D o) : TabR (ρ ++ [D]) H P q := by
  obtain ⟨un, ps, e1, tr, cs⟩ := h
  have out : ∀ x, x ∉ ρ → x ≠ D → x ∉ ρ ++ [D] := fun x h1 h2 hm => (List.mem_append.mp hm).elim h1 fun z => h2 (List.mem_singleton.mp z)
  refine ⟨out P un fun z => n.2 ps (by rw [z, e] at e1; exact Option.some.inj e1), ps, e1, tr, fun pos cv hc => ?_⟩
  obtain ⟨c, ⟨a1, a2⟩, a3⟩ := cs pos cv hc
  exact ⟨c, ⟨a1, out c a2 fun z => n.1 q (by rw [z, e] at a3; exact Option.some.inj a3)⟩, a3⟩
theorem TabR.sub {ρ ρ2 : List Addr} {H : Hp} {P : Addr} {q : Str} (h : TabR ρ H P q) (hs : ∀ x ∈ ρ2, x ∈ ρ) : TabR ρ2 H P q := by
  obtain ⟨un, ps, e1, tr, cs⟩ := h
  refine ⟨fun z => un (hs _ z), ps, e1, tr, fun pos cv hc => ?_⟩
  obtain ⟨c, ⟨a1, a2⟩, a3⟩ := cs pos cv hc
  exact ⟨c, ⟨a1, fun z => a2 (hs _ z)⟩, a3⟩
theorem TabR.renum {ρ ρ2 : List Addr} {H : Hp} {P : Addr} {q : Str} (h : TabR ρ H P q) (hs : ∀ x ∈ ρ2, ∃ u, H x = some u ∧ NC x u) : TabR ρ2 H P q := by
  obtain ⟨un, ps, e1, tr, cs⟩ := h
  refine ⟨fun z => ?_, ps, e1, tr, fun pos cv hc => ?_⟩
  · obtain ⟨u, e, n⟩ := hs _ z
    rw [e1] at e
    exact n.2 ps (Option.some.inj e).symm
  · obtain ⟨c, ⟨a1, a2⟩, a3⟩ := cs pos cv hc
    refine ⟨c, ⟨a1, fun z => ?_⟩, a3⟩
    obtain ⟨u, e, n⟩ := hs _ z
    rw [a3] at e
    exact n.1 q (Option.some.inj e).symm
/-- from one state to a later one -/
structure Step (K : PySem.W.Frag) (ρ : List Addr) (H : Hp) (ρ' : List Addr) (H' : Hp) : Prop where
  ext : ∃ more, ρ' = ρ ++ more ∧ ∀ p ∈ more, ∀ o, H p = some o → ¬ NT o
  keep : ∀ b o, H b = some o → b ∉ ρ → NT o → H' b = some o
  tup : ∀ b xs, SqT K H b xs → SqT K H' b xs
  live : ∀ b o, H b = some o → NT o → ∃ o', H' b = some o' ∧ NT o'
  dct : DKeep H H'
  fz : ∀ b o u, H b = some (.frz o u) → H' b = some (.frz o u)
  tbl : ∀ p ∈ tabsK K, TabR ρ H p.1 p.2 → TabR ρ' H' p.1 p.2
theorem Step.refl {K : PySem.W.Frag} {ρ : List Addr} {H : Hp} : Step K ρ H ρ H :=
  ⟨⟨[], (List.append_nil ρ).symm, fun _ h => by cases h⟩, fun _ _ h _ _ => h, fun _ _ h => h, fun _ o h n => ⟨o, h, n⟩, DKeep.refl, fun _ _ _ h => h, fun _ _ h => h⟩
theorem Step.trans {K : PySem.W.Frag} {ρ ρ1 ρ2 : List Addr} {H H1 H2 : Hp} (a : Step K ρ H ρ1 H1) (b : Step K ρ1 H1 ρ2 H2) : Step K ρ H ρ2 H2 := by
  obtain ⟨m1, e1, f1⟩ := a.ext
  obtain ⟨m2, e2, f2⟩ := b.ext
  refine ⟨⟨m1 ++ m2, by rw [e2, e1, List.append_assoc], fun p hp o ho no => ?_⟩, fun c o h hn nt => ?_, fun c xs h => b.tup c xs (a.tup c xs h), fun c o h n => (let ⟨o1, h1, n1⟩ := a.live c o h n; b.live c o1 h1 n1), a.dct.trans b.dct, fun c o u h => b.fz c o u (a.fz c o u h), fun p hp h => b.tbl p hp (a.tbl p hp h)⟩
  · rcases List.mem_append.mp hp with hp | hp
    · exact f1 p hp o ho no
    · obtain ⟨o1, h1, n1⟩ := a.live p o ho no
      exact f2 p hp o1 h1 n1
  · refine b.keep c o (a.keep c o h hn nt) (fun hc => ?_) nt
    rw [e1] at hc
    rcases List.mem_append.mp hc with hc | hc
    · exact hn hc
    · exact f1 c hc o h nt
theorem Step.get {K : PySem.W.Frag} {ρ ρ' : List Addr} {H H' : Hp} (a : Step K ρ H ρ' H') {i : Nat} {x : Addr} (h : ρ[i]? = some x) : ρ'[i]? = some x := by
  obtain ⟨m, e, _⟩ := a.ext
  rw [e, List.getElem?_append_left (List.getElem?_eq_some_iff.mp h).1]
  exact h
section
variable {K : PySem.W.Frag} {ρ ρ' : List Addr} {H H' : Hp}
/-- what values lean on -/
structure Grow (K : PySem.W.Frag) (ρ : List Addr) (H : Hp) (ρ' : List Addr) (H' : Hp) : Prop where
  get : ∀ (i : Nat) (x : Addr), ρ[i]? = some x → ρ'[i]? = some x
  tup : ∀ b xs, SqT K H b xs → SqT K H' b xs
  dct : DKeep H H'
  fz : ∀ b o u, H b = some (.frz o u) → H' b = some (.frz o u)
theorem Step.grow (st : Step K ρ H ρ' H') : Grow K ρ H ρ' H' := ⟨fun i x h => st.get h, st.tup, st.dct, st.fz⟩
mutual
theorem RV.grow (st : Grow K ρ H ρ' H') : ∀ {p : PV} {v : V}, RV K ρ H p v → RV K ρ' H' p v
  | _, _, .non => .non
  | _, _, .bl b => .bl b
  | _, _, .int i => .int i
  | _, _, .str x => .str x
  | _, _, .ty n => .ty n
  | _, _, .glb a => .glb a
  | _, _, .ref h => .ref (st.get _ _ h)
  | _, _, .tup h r => .tup (st.tup _ _ h) (RVs.grow st r)
  | _, _, .exc e1 e2 e3 e4 e5 r => .exc (st.fz _ _ _ e1) e2 e3 e4 (st.fz _ _ _ e5) (RV.grow st r)
theorem RVs.grow (st : Grow K ρ H ρ' H') : ∀ {ps : List PV} {vs : List V}, RVs K ρ H ps vs → RVs K ρ' H' ps vs
  | _, _, .nil => .nil
  | _, _, .cons r t => .cons (RV.grow st r) (RVs.grow st t)
end
theorem RV.step (st : Step K ρ H ρ' H') {p : PV} {v : V} (h : RV K ρ H p v) : RV K ρ' H' p v := h.grow st.grow
theorem RVs.step (st : Step K ρ H ρ' H') {p : List PV} {v : List V} (h : RVs K ρ H p v) : RVs K ρ' H' p v := h.grow st.grow
theorem RVs.length : ∀ {ps : List PV} {vs : List V}, RVs K ρ H ps vs → ps.length = vs.length
  | _, _, .nil => rfl
  | _, _, .cons _ t => by rw [List.length_cons, List.length_cons, RVs.length t]
theorem RVs.get : ∀ {ps : List PV} {vs : List V} {i : Nat} {p : PV}, RVs K ρ H ps vs → ps[i]? = some p → ∃ v, vs[i]? = some v ∧ RV K ρ H p v
  | _, _, i, p, .nil, e => by simp at e
  | _, _, 0, p, .cons r _, e => by simp at e; subst e; exact ⟨_, rfl, r⟩
  | _, _, i + 1, p, .cons _ t, e => by
    obtain ⟨v, h1, h2⟩ := RVs.get (i := i) (p := p) t (by simpa using e)
    exact ⟨v, by simpa using h1, h2⟩
theorem RVs.append : ∀ {ps qs : List PV} {vs ws : List V}, RVs K ρ H ps vs → RVs K ρ H qs ws → RVs K ρ H (ps ++ qs) (vs ++ ws)
  | _, _, _, _, .nil, s => s
  | _, _, _, _, .cons r t, s => .cons r (RVs.append t s)
theorem RVs.drop : ∀ {ps : List PV} {vs : List V} (n : Nat), RVs K ρ H ps vs → RVs K ρ H (ps.drop n) (vs.drop n)
  | _, _, 0, r => r
  | _, _, _ + 1, .nil => .nil
  | _, _, n + 1, .cons _ t => RVs.drop n t
theorem RVs.set {p : PV} {v : V} (r : RV K ρ H p v) : ∀ {ps : List PV} {vs : List V} (i : Nat), RVs K ρ H ps vs → RVs K ρ H (ps.set i p) (vs.set i v)
  | _, _, _, .nil => .nil
  | _, _, 0, .cons _ t => .cons r t
  | _, _, i + 1, .cons q t => .cons q (RVs.set r i t)
theorem RVs.eraseIdx : ∀ {ps : List PV} {vs : List V} (i : Nat), RVs K ρ H ps vs → RVs K ρ H (ps.eraseIdx i) (vs.eraseIdx i)
  | _, _, _, .nil => .nil
  | _, _, 0, .cons _ t => t
  | _, _, i + 1, .cons q t => .cons q (RVs.eraseIdx i t)
theorem RVs.reverse : ∀ {ps : List PV} {vs : List V}, RVs K ρ H ps vs → RVs K ρ H ps.reverse vs.reverse
  | _, _, .nil => .nil
  | _, _, .cons r t => by
    rw [List.reverse_cons, List.reverse_cons]
    exact RVs.append (RVs.reverse t) (.cons r .nil)
theorem RVs.replicate {ps : List PV} {vs : List V} (r : RVs K ρ H ps vs) : ∀ n : Nat, RVs K ρ H (List.replicate n ps).flatten (List.replicate n vs).flatten
  | 0 => .nil
  | n + 1 => by
    rw [List.replicate_succ, List.replicate_succ, List.flatten_cons, List.flatten_cons]
    exact RVs.append r (RVs.replicate r n)
end
/-- a key that is carried by value; a key of trees -/
def pvK : Key → PV
  | .inl i => .int i
  | .inr x => .str x
mutual
def pvN : NestedKey → PV
  | .none => .non
  | .num i => .int i
  | .text x => .str x
  | .tup ks => .tup (pvNs ks)
def pvNs : List NestedKey → List PV
  | [] => []
  | k :: ks => pvN k :: pvNs ks
end
section
variable (P : Program) (w : World) (K : PySem.W.Frag) (ρ : List Addr) (H : Hp)
/-- a value of a dict -/
def RVal (p : PV) (u : Value) : Prop := ∃ v, RelV v u ∧ RV K ρ H p v
/-- the object o is the dict of these pairs: keys by value, or keys that are tuples -/
def DObj (o : Obj) (kvs : List (PV × PV)) : Prop :=
  o.ExactDict ∧ kvs.length ≤ sizeLine ∧ ∃ es ep, o.data = .dict es ep ∧
    ((∃ vs : List (Key × Value), KeysOf (mixKind P w) es ∧ Pairs (mixKind P w) es.toList vs ∧ (vs.map (·.1)).Nodup ∧
        Paired (fun (p : PV × PV) (q : Key × Value) => p.1 = pvK q.1 ∧ RVal K ρ H p.2 q.2) kvs vs) ∨
     (∃ xs : List (NestedKey × Addr × Value), es.toList = xs.map (entryOfKey (nestedKind P w)) ∧ (xs.map (·.1)).Nodup ∧
        Paired (fun (p : PV × PV) (q : NestedKey × Addr × Value) => p.1 = pvN q.1 ∧ q.1.depth ≤ 8 ∧ RV K ρ H p.1 (.ref q.2.1) ∧ RVal K ρ H p.2 q.2.2) kvs xs))
/-- the abstract object lies at a -/
def ObjR (a : Addr) : MObj → Prop
  | .lst ps => ∃ vs, H a = some (.lst vs) ∧ RVs K ρ H ps vs
  | .rol ps => ∃ vs, (H a = some (.lst vs) ∨ ∃ o, H a = some (.frz o (.lst vs))) ∧ RVs K ρ H ps vs ∧ bareL ps = true
  | .dct kvs => ∃ o, H a = some (.ext fun h => h.get? a = some o) ∧ (a == sysModules) = false ∧ DObj P w K ρ H o kvs
  | .ins C fs => ∃ dx gs, H a = some (.ins C dx gs) ∧ gs.map (·.1) = fs.map (·.1) ∧ RVs K ρ H (fs.map (·.2)) (gs.map (·.2))
/-- the store lies in the heap -/
structure RSt (μ : Sto) : Prop where
  len : μ.length = ρ.length
  nd : ρ.Nodup
  obj : ∀ (i : Nat) (a : Addr) (o : MObj), ρ[i]? = some a → μ[i]? = some o → ObjR P w K ρ H a o
  tab : ∀ p ∈ tabsK K, TabR ρ H p.1 p.2
/-- the frame's slots hold these -/
def REnv (η : Env') (σ : L2.St) : Prop := η.length = σ.length ∧ ∀ (i : Nat) (p : PV), η[i]? = some (some p) → ∃ v, σ[i]? = some (some v) ∧ RV K ρ H p v
end
section
variable {P : Program} {w : World} {K : PySem.W.Frag} {ρ ρ' : List Addr} {H H' : Hp}
theorem RVal.step (st : Grow K ρ H ρ' H') {p : PV} {u : Value} (h : RVal K ρ H p u) : RVal K ρ' H' p u :=
  let ⟨v, r, q⟩ := h
  ⟨v, r, q.grow st⟩
theorem DObj.step (st : Grow K ρ H ρ' H') {o : Obj} {kvs : List (PV × PV)} (h : DObj P w K ρ H o kvs) : DObj P w K ρ' H' o kvs := by
  obtain ⟨x, z, es, ep, e, h⟩ := h
  refine ⟨x, z, es, ep, e, ?_⟩
  rcases h with ⟨vs, a, b, c, d⟩ | ⟨xs, a, b, d⟩
  · exact .inl ⟨vs, a, b, c, Paired.mapP d fun p q h => ⟨h.1, h.2.step st⟩⟩
  · exact .inr ⟨xs, a, b, Paired.mapP d fun p q h => ⟨h.1, h.2.1, h.2.2.1.grow st, h.2.2.2.step st⟩⟩
theorem ObjR.step (st : Grow K ρ H ρ' H') {a : Addr} {o : MObj} (e : ∀ u, H a = some u → H' a = some u) (h : ObjR P w K ρ H a o) : ObjR P w K ρ' H' a o := by
  cases o with
  | lst ps =>
    obtain ⟨vs, h1, h2⟩ := h
    exact ⟨vs, e _ h1, h2.grow st⟩
  | rol ps =>
    obtain ⟨vs, h1, h2, h3⟩ := h
    exact ⟨vs, h1.imp (e _) fun ⟨o, h⟩ => ⟨o, e _ h⟩, h2.grow st, h3⟩
  | dct kvs =>
    obtain ⟨o, h1, h2, h3⟩ := h
    exact ⟨o, e _ h1, h2, h3.step st⟩
  | ins C fs =>
    obtain ⟨dx, gs, h1, h2, h3⟩ := h
    exact ⟨dx, gs, e _ h1, h2, h3.grow st⟩
theorem ObjR.there {a : Addr} {o : MObj} (h : ObjR P w K ρ H a o) : H a ≠ none := by
  intro z
  cases o with
  | lst ps =>
    obtain ⟨vs, h1, h2⟩ := h
    rw [z] at h1; cases h1
  | rol ps =>
    obtain ⟨vs, h1 | ⟨o, h1⟩, h2⟩ := h
    · rw [z] at h1; cases h1
    · rw [z] at h1; cases h1
  | dct kvs =>
    obtain ⟨o, h1, h2, h3⟩ := h
    rw [z] at h1; cases h1
  | ins C fs =>
    obtain ⟨dx, gs, h1, h2, h3⟩ := h
    rw [z] at h1; cases h1
theorem REnv.grow (st : Grow K ρ H ρ' H') {η : Env'} {σ : L2.St} (h : REnv K ρ H η σ) : REnv K ρ' H' η σ :=
  ⟨h.1, fun i p e =>
    let ⟨v, e1, r⟩ := h.2 i p e
    ⟨v, e1, r.grow st⟩⟩
theorem REnv.step (st : Step K ρ H ρ' H') {η : Env'} {σ : L2.St} (h : REnv K ρ H η σ) : REnv K ρ' H' η σ := h.grow st.grow
theorem REnv.set {η : Env'} {σ : L2.St} (h : REnv K ρ H η σ) {p : PV} {v : V} (r : RV K ρ H p v) (i : Nat) : REnv K ρ H (η.set i (some p)) (σ.set i (some v)) := by
  refine ⟨by rw [List.length_set, List.length_set]; exact h.1, fun j q e => ?_⟩
  by_cases hj : i = j
  · subst hj
    by_cases hl : i < η.length
    · rw [List.getElem?_set_self hl] at e
      cases e
      exact ⟨v, List.getElem?_set_self (h.1 ▸ hl), r⟩
    · rw [List.getElem?_eq_none (by rw [List.length_set]; exact Nat.le_of_not_lt hl)] at e
      cases e
  · rw [List.getElem?_set_ne hj] at e ⊢
    exact h.2 j q e
/-- any new object is laid; it gets the next number, or none -/
theorem Step.new {p : Addr} {u : HO} (hp : H p = none) : Step K ρ H (ρ ++ [p]) (upd H p u) := by
  have ne : ∀ b o, H b = some o → b ≠ p := fun b o h => ne_of_none h hp
  refine ⟨⟨[p], rfl, fun q h o ho => by rw [List.mem_singleton.mp h, hp] at ho; cases ho⟩, fun b o h _ _ => ?_, fun b xs h => ?_, fun b o h no => ?_, DKeep.upd (DW.none hp), fun b o u h => by rw [upd_ne (ne b _ h)]; exact h, fun q _ h => h.to (fun x hx hn => fun hm => (List.mem_append.mp hm).elim hx fun z => hn (by rw [List.mem_singleton.mp z]; exact hp)) fun x o _ h _ => by rw [upd_ne (ne x _ h)]; exact h⟩
  · rw [upd_ne (ne b o h)]
    exact h
  · rcases h with (h | ⟨o, h⟩) | h
    · exact .inl (.inl (by rw [upd_ne (ne b _ h)]; exact h))
    · exact .inl (.inr ⟨o, by rw [upd_ne (ne b _ h)]; exact h⟩)
    · exact .inr h
  · exact ⟨o, by rw [upd_ne (ne b _ h)]; exact h, no⟩
theorem Step.quiet {p : Addr} {u : HO} (hp : H p = none) : Step K ρ H ρ (upd H p u) := by
  have ne : ∀ b o, H b = some o → b ≠ p := fun b o h => ne_of_none h hp
  refine ⟨⟨[], (List.append_nil ρ).symm, fun _ h => by cases h⟩, fun b o h _ _ => ?_, fun b xs h => ?_, fun b o h no => ?_, DKeep.upd (DW.none hp), fun b o u h => by rw [upd_ne (ne b _ h)]; exact h, fun q _ h => h.to (fun x hx hn => hx) fun x o _ h _ => by rw [upd_ne (ne x _ h)]; exact h⟩
  · rw [upd_ne (ne b o h)]
    exact h
  · rcases h with (h | ⟨o, h⟩) | h
    · exact .inl (.inl (by rw [upd_ne (ne b _ h)]; exact h))
    · exact .inl (.inr ⟨o, by rw [upd_ne (ne b _ h)]; exact h⟩)
    · exact .inr h
  · exact ⟨o, by rw [upd_ne (ne b _ h)]; exact h, no⟩
/-- an object with a number is written -/
theorem Step.write {a : Addr} {u : HO} (ha : a ∈ ρ) (hm : Mut (H a)) (hd : DW H a u) (nu : NT u := by exact fun _ z => nomatch z) : Step K ρ H ρ (upd H a u) := by
  have ht : ∀ b o, H b = some o → ¬ Mut (some o) → b ≠ a := fun b o h n e => by
    subst e
    rw [h] at hm
    exact n hm
  refine ⟨⟨[], (List.append_nil ρ).symm, fun _ h => by cases h⟩, fun b o h hn _ => ?_, fun b xs h => ?_, fun b o h no => ?_, DKeep.upd hd, fun b o u h => by rw [upd_ne (ht b _ h fun z => z)]; exact h, fun p _ h => h.to (fun x hx _ => hx) fun x o hx h _ => by rw [upd_ne fun e => hx (by rw [e]; exact ha)]; exact h⟩
  · rw [upd_ne fun e => hn (by rw [e]; exact ha)]
    exact h
  · rcases h with (h | ⟨o, h⟩) | h
    · exact .inl (.inl (by rw [upd_ne (ht b _ h fun z => z)]; exact h))
    · exact .inl (.inr ⟨o, by rw [upd_ne (ht b _ h fun z => z)]; exact h⟩)
    · exact .inr h
  · by_cases e : b = a
    · subst e
      exact ⟨u, upd_same, nu⟩
    · exact ⟨o, by rw [upd_ne e]; exact h, no⟩
end
section
variable {P : Program} {w : World} {K : PySem.W.Frag} {ρ ρ' : List Addr} {H H' : Hp} {μ : Sto}
theorem RSt.at (s : RSt P w K ρ H μ) {i : Nat} {a : Addr} {o : MObj} (ha : ρ[i]? = some a) (h : μ[i]? = some o) : ObjR P w K ρ H a o := s.obj i a o ha h
theorem ObjR.nc {a : Addr} {o : MObj} (h : ObjR P w K ρ H a o) : ∃ u, H a = some u ∧ NC a u := by
  cases o with
  | lst ps =>
    obtain ⟨vs, h1, _⟩ := h
    exact ⟨_, h1, nc_lst⟩
  | rol ps =>
    obtain ⟨vs, h1 | ⟨o, h1⟩, _⟩ := h
    · exact ⟨_, h1, nc_lst⟩
    · exact ⟨_, h1, nc_frz⟩
  | dct kvs =>
    obtain ⟨o, h1, _, h3⟩ := h
    obtain ⟨_, _, es, ep, e, _⟩ := h3
    exact ⟨_, h1, nc_dct e⟩
  | ins C fs =>
    obtain ⟨dx, gs, h1, _⟩ := h
    exact ⟨_, h1, nc_ins⟩
theorem RSt.nc (s : RSt P w K ρ H μ) {a : Addr} (h : a ∈ ρ) : ∃ u, H a = some u ∧ NC a u := by
  obtain ⟨i, hi, e⟩ := List.getElem_of_mem h
  have e1 : ρ[i]? = some a := by rw [List.getElem?_eq_getElem hi, e]
  have hl : i < μ.length := by rw [s.len]; exact hi
  exact (s.obj i a _ e1 (List.getElem?_eq_getElem hl)).nc
theorem RSt.there (s : RSt P w K ρ H μ) {a : Addr} (h : a ∈ ρ) : H a ≠ none := by
  obtain ⟨i, hi, e⟩ := List.getElem_of_mem h
  have e1 : ρ[i]? = some a := by rw [List.getElem?_eq_getElem hi, e]
  have hl : i < μ.length := by rw [s.len]; exact hi
  exact (s.obj i a _ e1 (List.getElem?_eq_getElem hl)).there
theorem RSt.fresh (s : RSt P w K ρ H μ) {p : Addr} (h : H p = none) : p ∉ ρ := fun hp => s.there hp h
/-- nothing with a number changed -/
theorem RSt.keep (s : RSt P w K ρ H μ) (st : Step K ρ H ρ H') (e : ∀ a ∈ ρ, H' a = H a) : RSt P w K ρ H' μ :=
  ⟨s.len, s.nd, fun i a o ha ho => (s.obj i a o ha ho).step st.grow fun u h => (e a (List.mem_of_getElem? ha)).trans h, fun p hp => st.tbl _ hp (s.tab p hp)⟩
/-- a new untold object -/
theorem RSt.quiet (s : RSt P w K ρ H μ) {p : Addr} {u : HO} (hp : H p = none) : RSt P w K ρ (upd H p u) μ :=
  s.keep (Step.quiet hp) fun a ha => upd_ne fun e => s.there ha (by rw [e]; exact hp)
/-- a new object gets the next number -/
theorem RSt.new (s : RSt P w K ρ H μ) {p : Addr} {u : HO} {o : MObj} (hp : H p = none) (h : ObjR P w K (ρ ++ [p]) (upd H p u) p o) : RSt P w K (ρ ++ [p]) (upd H p u) (μ ++ [o]) := by
  have hn := s.fresh hp
  refine ⟨by simp [s.len], ?_, fun i a x ha hx => ?_, fun q hq => (Step.new (K := K) hp).tbl _ hq (s.tab q hq)⟩
  · rw [List.nodup_append]
    refine ⟨s.nd, by simp, fun a ha b hb => ?_⟩
    rw [List.mem_singleton.mp hb]
    exact fun e => hn (e ▸ ha)
  · by_cases hi : i < ρ.length
    · rw [List.getElem?_append_left hi] at ha
      rw [List.getElem?_append_left (by rw [s.len]; exact hi)] at hx
      have hm := List.mem_of_getElem? ha
      exact (s.obj i a x ha hx).step (Step.new hp).grow fun u hu => by
        rw [upd_ne fun e => s.there hm (by rw [e]; exact hp)]
        exact hu
    · have e : i = ρ.length := by
        have := (List.getElem?_eq_some_iff.mp ha).1
        simp at this
        omega
      subst e
      rw [List.getElem?_append_right (Nat.le_refl _), Nat.sub_self] at ha
      rw [List.getElem?_append_right (by rw [s.len]; exact Nat.le_refl _), s.len, Nat.sub_self] at hx
      cases ha
      cases hx
      exact h
theorem RSt.nextId (s : RSt P w K ρ H μ) {p : Addr} : (ρ ++ [p])[μ.length]? = some p := by
  rw [s.len, List.getElem?_append_right (Nat.le_refl _), Nat.sub_self]
  rfl
/-- an object with a number is written -/
theorem RSt.write (s : RSt P w K ρ H μ) {i : Nat} {a : Addr} {u : HO} {o : MObj} (ha : ρ[i]? = some a) (hm : Mut (H a)) (hd : DW H a u) (h : ObjR P w K ρ (upd H a u) a o) (nu : NT u := by exact fun _ z => nomatch z) : RSt P w K ρ (upd H a u) (μ.set i o) := by
  refine ⟨by rw [List.length_set]; exact s.len, s.nd, fun j b x hb hx => ?_, fun q hq => (Step.write (K := K) (List.mem_of_getElem? ha) hm hd nu).tbl _ hq (s.tab q hq)⟩
  by_cases hj : i = j
  · subst hj
    rw [ha] at hb
    cases hb
    have hl : i < μ.length := by rw [s.len]; exact (List.getElem?_eq_some_iff.mp ha).1
    rw [List.getElem?_set_self hl] at hx
    cases hx
    exact h
  · rw [List.getElem?_set_ne hj] at hx
    have hne : b ≠ a := by
      intro e
      subst e
      have hi := (List.getElem?_eq_some_iff.mp ha).1
      exact hj ((List.getElem?_inj hi s.nd).mp (ha.trans hb.symm))
    exact (s.obj j b x hb hx).step (Step.write (List.mem_of_getElem? ha) hm hd nu).grow fun v hv => by
      rw [upd_ne hne]
      exact hv
/-- an object without a number, made since the start, is written -/
theorem Grow.write {a : Addr} {u : HO} (hm : Mut (H a)) (hd : DW H a u) : Grow K ρ H ρ (upd H a u) := by
  have ht : ∀ b o, H b = some o → ¬ Mut (some o) → b ≠ a := fun b o h n e => by
    subst e
    rw [h] at hm
    exact n hm
  refine ⟨fun _ _ h => h, fun b xs h => ?_, DKeep.upd hd, fun b o u h => by rw [upd_ne (ht b _ h fun z => z)]; exact h⟩
  rcases h with (h | ⟨o, h⟩) | h
  · exact .inl (.inl (by rw [upd_ne (ht b _ h fun z => z)]; exact h))
  · exact .inl (.inr ⟨o, by rw [upd_ne (ht b _ h fun z => z)]; exact h⟩)
  · exact .inr h
theorem Step.over {H1 : Hp} (st : Step K ρ H ρ' H1) {a : Addr} {u : HO} (h0 : H a = none) (hm : Mut (H1 a)) (hd : DW H1 a u) (hc : ∀ q, H1 a ≠ some (LamX.CodeO a q)) (nu : NT u := by exact fun _ z => nomatch z) : Step K ρ H ρ' (upd H1 a u) := by
  have nt : ∀ ps, H1 a ≠ some (.tbl ps) := fun ps z => by rw [z] at hm; exact hm
  refine ⟨st.ext, fun b o h hn nb => ?_, fun b xs h => (Grow.write (ρ := ρ') hm hd).tup b xs (st.tup b xs h), fun b o h no => ?_, st.dct.trans (DKeep.upd hd), fun b o v h => (Grow.write (K := K) (ρ := ρ') hm hd).fz b o v (st.fz b o v h), fun p hp h => (st.tbl p hp h).to (fun x hx _ => hx) fun x o _ h k => by
      rw [upd_ne fun e => ?_]
      · exact h
      · rw [e] at h k
        rcases k with k | ⟨ps, k⟩
        · exact hc p.2 (by rw [h, k])
        · exact nt ps (by rw [h, k])⟩
  · rw [upd_ne (ne_of_none h h0)]
    exact st.keep b o h hn nb
  · by_cases e : b = a
    · subst e
      exact ⟨u, upd_same, nu⟩
    · rw [upd_ne e]
      exact st.live b o h no
theorem RSt.over (s : RSt P w K ρ H μ) {a : Addr} {u : HO} (hn : a ∉ ρ) (hm : Mut (H a)) (hd : DW H a u) (hc : ∀ q, H a ≠ some (LamX.CodeO a q)) : RSt P w K ρ (upd H a u) μ :=
  ⟨s.len, s.nd, fun i b o hb ho => (s.obj i b o hb ho).step (Grow.write hm hd) fun v hv => by
    rw [upd_ne fun e => hn (by rw [← e]; exact List.mem_of_getElem? hb)]
    exact hv, fun p hp => (s.tab p hp).to (fun x hx _ => hx) fun x o _ h k => by
      rw [upd_ne fun e => ?_]
      · exact h
      · rw [e] at h k
        rcases k with k | ⟨ps, k⟩
        · exact hc p.2 (by rw [h, k])
        · rw [k] at h; rw [h] at hm; exact hm⟩
end
end DL
namespace DL
open PySem PySem.Spec PyProof.Rows L2
abbrev EW := Addr → PV → Sto → List Addr → Hp → Prop
/-- what is asked behind a reckoning -/
def Post {α β : Type} (P : Program) (w : World) (K : PySem.W.Frag) (W : EW) (ρ : List Addr) (H : Hp) (r : Rz α) (Rel : List Addr → Hp → α → β → Prop) (Q : β → Hp → Prop) : Prop :=
  match r with
  | .ok a μ' => ∀ ρ' x H', Step K ρ H ρ' H' → Rel ρ' H' a x → RSt P w K ρ' H' μ' → Q x H'
  | .err C v μ' => ∀ ρ' H', Step K ρ H ρ' H' → RSt P w K ρ' H' μ' → W C v μ' ρ' H'
  | .bad => False
section
variable {α β γ δ : Type} {P : Program} {w : World} {K : PySem.W.Frag} {W : EW} {ρ ρ1 : List Addr} {H H1 : Hp}
theorem Post.step {r : Rz α} {Rel : List Addr → Hp → α → β → Prop} {Q : β → Hp → Prop} (st : Step K ρ H ρ1 H1) (h : Post P w K W ρ H r Rel Q) : Post P w K W ρ1 H1 r Rel Q := by
  cases r with
  | ok a μ => exact fun ρ' x H' s r t => h ρ' x H' (st.trans s) r t
  | err C v μ => exact fun ρ' H' s t => h ρ' H' (st.trans s) t
  | bad => exact h
theorem Post.bind {r : Rz α} {f : α → Sto → Rz γ} {Rel : List Addr → Hp → α → β → Prop} {Rel2 : List Addr → Hp → γ → δ → Prop} {Q : δ → Hp → Prop} (h : Post P w K W ρ H (r.bind f) Rel2 Q) :
    Post P w K W ρ H r Rel (fun x H1 => ∃ ρ1 a μ1, Step K ρ H ρ1 H1 ∧ Rel ρ1 H1 a x ∧ RSt P w K ρ1 H1 μ1 ∧ Post P w K W ρ1 H1 (f a μ1) Rel2 Q) := by
  cases r with
  | ok a μ => exact fun ρ' x H' s r t => ⟨ρ', a, μ, s, r, t, Post.step s h⟩
  | err C v μ => exact h
  | bad => exact h
theorem Post.mono {r : Rz α} {Rel : List Addr → Hp → α → β → Prop} {Q Q' : β → Hp → Prop} (h : Post P w K W ρ H r Rel Q) (hq : ∀ x H', Q x H' → Q' x H') : Post P w K W ρ H r Rel Q' := by
  cases r with
  | ok a μ => exact fun ρ' x H' s r t => hq _ _ (h ρ' x H' s r t)
  | err C v μ => exact h
  | bad => exact h
end
abbrev DE := Env' → Sto → Rz PV
abbrev DA := Env' → Sto → Rz (List PV)
abbrev DT := Env' → Sto → Rz Bool
/-- a function of values: an operator, a built-in, a def -/
abbrev VF := List PV → Sto → Rz PV
section
variable (P : Program) (w : World) (K : PySem.W.Frag) (W : EW)
abbrev RB : List Addr → Hp → Bool → Bool → Prop := fun _ _ a b => a = b
def T (d : DE) : TE := fun σ H Q => ∃ ρ η μ, REnv K ρ H η σ ∧ RSt P w K ρ H μ ∧ Post P w K W ρ H (d η μ) (RV K) Q
def TL (d : DA) : TA := fun σ H Q => ∃ ρ η μ, REnv K ρ H η σ ∧ RSt P w K ρ H μ ∧ Post P w K W ρ H (d η μ) (RVs K) Q
def TB (d : DT) : TT := fun σ H Q => ∃ ρ η μ, REnv K ρ H η σ ∧ RSt P w K ρ H μ ∧ Post P w K W ρ H (d η μ) RB Q
/-- an operation on values by a function -/
def rL (f : VF) : List V → Hp → VK → Prop := fun vs H Q => ∃ ρ μ ps, RVs K ρ H ps vs ∧ RSt P w K ρ H μ ∧ Post P w K W ρ H (f ps μ) (RV K) Q
end
def dNil : DA := fun _ μ => .ok [] μ
def dCons (d : DE) (ds : DA) : DA := fun η μ => (d η μ).bind fun p μ1 => (ds η μ1).bind fun ps μ2 => .ok (p :: ps) μ2
def dApp (f : VF) (ds : DA) : DE := fun η μ => (ds η μ).bind f
def dVar (i : Nat) : DE := fun η μ => match η[i]? with
  | some (some p) => .ok p μ
  | _ => .bad
def dC (p : PV) : DE := fun _ μ => .ok p μ
def dIf (c : DT) (a b : DE) : DE := fun η μ => (c η μ).bind fun k μ1 => if k = true then a η μ1 else b η μ1
def dNot (c : DT) : DT := fun η μ => (c η μ).bind fun k μ1 => .ok (!k) μ1
def dOr (a b : DT) : DT := fun η μ => (a η μ).bind fun k μ1 => if k = true then .ok true μ1 else b η μ1
section
variable {X : Cx} {W : EW}
theorem _root_.L2.PE.impD {e : Expr} {t t' : TE} (h : PE X e t) (i : ∀ σ H Q, t' σ H Q → t σ H Q) : PE X e t' := ⟨fun pins s σ H Q I hw => h.run pins s σ H Q I (i _ _ _ hw)⟩
theorem _root_.L2.PA.impD {es : List Expr} {t t' : TA} (h : PA X es t) (i : ∀ σ H Q, t' σ H Q → t σ H Q) : PA X es t' := ⟨fun pos pins s σ H Q I hw => h.run pos pins s σ H Q I (i _ _ _ hw)⟩
theorem _root_.L2.PT.impD {e : Expr} {t t' : TT} (h : PT X e t) (i : ∀ σ H Q, t' σ H Q → t σ H Q) : PT X e t' := ⟨fun pins s σ H Q I hw => h.run pins s σ H Q I (i _ _ _ hw)⟩
theorem _root_.L2.PW.impD {e : Expr} {t t' : TT} (h : PW X e t) (i : ∀ σ H Q, t' σ H Q → t σ H Q) : PW X e t' := ⟨fun wh pins s σ H Q I hw => h.run wh pins s σ H Q I (i _ _ _ hw)⟩
theorem _root_.L2.PS.impD {st : Stmt} {t t' : TS} (h : PS X st t) (i : ∀ D σ H, t' D σ H → t D σ H) : PS X st t' := ⟨fun pins s σ H D I hw => h.run pins s σ H D I (i _ _ _ hw)⟩
theorem _root_.L2.PSs.impD {st : List Stmt} {t t' : TS} (h : PSs X st t) (i : ∀ D σ H, t' D σ H → t D σ H) : PSs X st t' := ⟨fun pins s σ H D I hw => h.run pins s σ H D I (i _ _ _ hw)⟩
abbrev LE (X : Cx) (W : EW) (e : Expr) (d : DE) : Prop := PE X e (T X.prog X.w X.K W d)
abbrev LA (X : Cx) (W : EW) (es : List Expr) (d : DA) : Prop := PA X es (TL X.prog X.w X.K W d)
abbrev LT (X : Cx) (W : EW) (e : Expr) (d : DT) : Prop := PT X e (TB X.prog X.w X.K W d)
abbrev LW (X : Cx) (W : EW) (e : Expr) (d : DT) : Prop := PW X e (TB X.prog X.w X.K W d)
theorem le_var {i : Nat} {x : Str} {pos : Pos} (h : PE X (.Name x pos) (tVar i)) : LE X W (.Name x pos) (dVar i) := h.impD fun σ H Q ⟨ρ, η, μ, e, s, p⟩ => by
  unfold dVar at p
  cases q : η[i]? with
  | none => rw [q] at p; exact p.elim
  | some o =>
    cases o with
    | none => rw [q] at p; exact p.elim
    | some pv =>
      rw [q] at p
      obtain ⟨v, e1, r⟩ := e.2 i pv q
      exact ⟨v, e1, p ρ v H Step.refl r s⟩
theorem le_c {v : V} {p : PV} {e : Expr} (h : PE X e (tC v)) (r : ∀ ρ H, RV X.K ρ H p v) : LE X W e (dC p) := h.impD fun σ H Q ⟨ρ, η, μ, e, s, q⟩ => q ρ v H Step.refl (r ρ H) s
theorem le_int {i : Int} {j pos} : LE X W (.Constant (.int i) j pos) (dC (.int i)) := le_c pe_int fun _ _ => .int i
theorem le_bl {b : Bool} {j pos} : LE X W (.Constant (.bool b) j pos) (dC (.bl b)) := le_c pe_bl fun _ _ => .bl b
theorem le_non {j pos} : LE X W (.Constant .none j pos) (dC .non) := le_c pe_non fun _ _ => .non
theorem le_str {x : Str} {j pos} : LE X W (.Constant (.str x) j pos) (dC (.str x)) := le_c pe_str fun _ _ => .str x
theorem la_nil : LA X W [] dNil := pa_nil.impD fun σ H Q ⟨ρ, η, μ, e, s, q⟩ => q ρ [] H Step.refl .nil s
theorem la_cons {e : Expr} {es : List Expr} {d : DE} {ds : DA} (h1 : LE X W e d) (h2 : LA X W es ds) (hs : starEach (e :: es) X.env = (false, eval e X.env) :: starEach es X.env := by rfl) : LA X W (e :: es) (dCons d ds) :=
  (pa_cons h1 h2 hs).impD fun σ H Q ⟨ρ, η, μ, en, s, q⟩ => by
    unfold dCons at q
    refine ⟨ρ, η, μ, en, s, (Post.bind q).mono fun x H1 ⟨ρ1, a, μ1, st, r, s1, q1⟩ => ?_⟩
    refine ⟨ρ1, η, μ1, en.step st, s1, (Post.bind q1).mono fun xs H2 ⟨ρ2, as, μ2, st2, r2, s2, q2⟩ => ?_⟩
    exact q2 ρ2 (x :: xs) H2 Step.refl (.cons (r.step st2) r2) s2
theorem app_of {f : VF} {ds : DA} {σ : L2.St} {H : Hp} {Q : VK} (h : T X.prog X.w X.K W (dApp f ds) σ H Q) : TL X.prog X.w X.K W ds σ H (fun vs H1 => rL X.prog X.w X.K W f vs H1 Q) := by
  obtain ⟨ρ, η, μ, en, s, q⟩ := h
  exact ⟨ρ, η, μ, en, s, (Post.bind q).mono fun x H1 ⟨ρ1, a, μ1, st, r, s1, q1⟩ => ⟨ρ1, μ1, a, r, s1, q1⟩⟩
theorem tl_cons {d : DE} {ds : DA} {σ : L2.St} {H : Hp} {Q : List V → Hp → Prop} (h : TL X.prog X.w X.K W (dCons d ds) σ H Q) : T X.prog X.w X.K W d σ H fun x H1 => TL X.prog X.w X.K W ds σ H1 fun xs H2 => Q (x :: xs) H2 := by
  obtain ⟨ρ, η, μ, en, s, q⟩ := h
  unfold dCons at q
  refine ⟨ρ, η, μ, en, s, (Post.bind q).mono fun x H1 ⟨ρ1, a, μ1, st, r, s1, q1⟩ => ?_⟩
  refine ⟨ρ1, η, μ1, en.step st, s1, (Post.bind q1).mono fun xs H2 ⟨ρ2, as, μ2, st2, r2, s2, q2⟩ => ?_⟩
  exact q2 ρ2 (x :: xs) H2 Step.refl (.cons (r.step st2) r2) s2
theorem tl_nil {σ : L2.St} {H : Hp} {Q : List V → Hp → Prop} (h : TL X.prog X.w X.K W dNil σ H Q) : Q [] H := by
  obtain ⟨ρ, η, μ, en, s, q⟩ := h
  exact q ρ [] H Step.refl .nil s
theorem T.mono {d : DE} {σ : L2.St} {H : Hp} {Q Q' : VK} (h : T X.prog X.w X.K W d σ H Q) (hq : ∀ x H', Q x H' → Q' x H') : T X.prog X.w X.K W d σ H Q' :=
  let ⟨ρ, η, μ, en, s, q⟩ := h
  ⟨ρ, η, μ, en, s, q.mono hq⟩
theorem TL.mono {d : DA} {σ : L2.St} {H : Hp} {Q Q' : List V → Hp → Prop} (h : TL X.prog X.w X.K W d σ H Q) (hq : ∀ x H', Q x H' → Q' x H') : TL X.prog X.w X.K W d σ H Q' :=
  let ⟨ρ, η, μ, en, s, q⟩ := h
  ⟨ρ, η, μ, en, s, q.mono hq⟩
theorem app1 {f : VF} {d : DE} {σ : L2.St} {H : Hp} {Q : VK} (h : T X.prog X.w X.K W (dApp f (dCons d dNil)) σ H Q) : T X.prog X.w X.K W d σ H fun x H1 => rL X.prog X.w X.K W f [x] H1 Q :=
  (tl_cons (app_of h)).mono fun x H1 h => tl_nil h
theorem app2 {f : VF} {d d' : DE} {σ : L2.St} {H : Hp} {Q : VK} (h : T X.prog X.w X.K W (dApp f (dCons d (dCons d' dNil))) σ H Q) : T X.prog X.w X.K W d σ H fun x H1 => T X.prog X.w X.K W d' σ H1 fun y H2 => rL X.prog X.w X.K W f [x, y] H2 Q :=
  (tl_cons (app_of h)).mono fun x H1 h => (tl_cons h).mono fun y H2 h => tl_nil h
/-- an operator on two values, on one, a call of a value, a method's, an item's -/
abbrev O2 (X : Cx) (W : EW) (op : Value → Value → Sem Value) (f : VF) : Prop := OpR X op (fun x y H Q => rL X.prog X.w X.K W f [x, y] H Q)
abbrev O1 (X : Cx) (W : EW) (op : Value → Sem Value) (f : VF) : Prop := UnR X op (fun x H Q => rL X.prog X.w X.K W f [x] H Q)
abbrev OC (X : Cx) (W : EW) (v : Value) (f : VF) : Prop := CallR X v (rL X.prog X.w X.K W f)
abbrev OM (X : Cx) (W : EW) (id : String) (f : VF) : Prop := MtR X id (fun x xs H Q => rL X.prog X.w X.K W f (x :: xs) H Q)
abbrev OI (X : Cx) (W : EW) (f : VF) : Prop := IxR X (fun x y H Q => rL X.prog X.w X.K W f [x, y] H Q)
theorem le_bin {a b : Expr} {op : Operator} {f : VF} {d1 d2 : DE} {pos : Pos} (o : O2 X W (binaryOp op) f) (h1 : LE X W a d1) (h2 : LE X W b d2) : LE X W (.BinOp a op b pos) (dApp f (dCons d1 (dCons d2 dNil))) :=
  (pe_op o h1 h2).impD fun _ _ _ h => app2 h
theorem le_un {a : Expr} {op : UnaryOp} {f : VF} {d1 : DE} {pos : Pos} (o : O1 X W (unaryOp op) f) (h1 : LE X W a d1) : LE X W (.UnaryOp op a pos) (dApp f (dCons d1 dNil)) :=
  (pe_un o h1).impD fun _ _ _ h => app1 h
theorem le_cmp {a b : Expr} {op : CmpOp} {f : VF} {d1 d2 : DE} {pos : Pos} (o : O2 X W (compareOp op) f) (h1 : LE X W a d1) (h2 : LE X W b d2) (hm : behindInMarks op b = false) : LE X W (.Compare a [op] [b] pos) (dApp f (dCons d1 (dCons d2 dNil))) :=
  (pe_cmpR o h1 h2 hm).impD fun _ _ _ h => app2 h
/-- the bool that a value is -/
def dTest (d : DE) : DT := fun η μ => (d η μ).bind fun p μ1 => match p with
  | .bl k => .ok k μ1
  | _ => .bad
theorem test_of {d : DE} {σ : L2.St} {H : Hp} {Q : Bool → Hp → Prop} (h : TB X.prog X.w X.K W (dTest d) σ H Q) : T X.prog X.w X.K W d σ H fun x H1 => ∃ k, x = .bl k ∧ Q k H1 := by
  obtain ⟨ρ, η, μ, en, s, q⟩ := h
  unfold dTest at q
  refine ⟨ρ, η, μ, en, s, (Post.bind q).mono fun x H1 ⟨ρ1, a, μ1, st, r, s1, q1⟩ => ?_⟩
  cases r with
  | bl b => exact ⟨b, rfl, q1 ρ1 b H1 Step.refl rfl s1⟩
  | _ => exact q1.elim
theorem lt_cmp {a b : Expr} {op : CmpOp} {f : VF} {d1 d2 : DE} {pos : Pos} (o : O2 X W (compareOp op) f) (h1 : LE X W a d1) (h2 : LE X W b d2) (hm : behindInMarks op b = false) : LT X W (.Compare a [op] [b] pos) (dTest (dApp f (dCons d1 (dCons d2 dNil)))) :=
  (pt_cmpR o h1 h2 hm).impD fun _ _ _ h => (app2' (test_of h))
where app2' {f : VF} {d d' : DE} {σ : L2.St} {H : Hp} {Q : VK} (h : T X.prog X.w X.K W (dApp f (dCons d (dCons d' dNil))) σ H Q) : tOp (fun x y H Q => rL X.prog X.w X.K W f [x, y] H Q) (T X.prog X.w X.K W d) (T X.prog X.w X.K W d') σ H Q := app2 h
end
end DL
namespace DL
open PySem PySem.Spec PyProof.Rows L2
section
variable {K : PySem.W.Frag} {ρ : List Addr} {H : Hp} {P : Program} {w : World}
theorem RVs.isEmpty {ps : List PV} {vs : List V} (r : RVs K ρ H ps vs) : ps.isEmpty = vs.isEmpty := by cases r <;> rfl
/-- what stands at a number -/
def seqAt (μ : Sto) (i : Nat) : Option (List PV) := match μ[i]? with
  | some (.lst ps) => some ps
  | some (.rol ps) => some ps
  | _ => none
theorem seqAt_of {μ : Sto} {i : Nat} {a : Addr} {ps : List PV} (s : RSt P w K ρ H μ) (ha : ρ[i]? = some a) (h : seqAt μ i = some ps) : ∃ vs, SqL K H a vs ∧ RVs K ρ H ps vs := by
  unfold seqAt at h
  cases q : μ[i]? with
  | none => rw [q] at h; cases h
  | some o =>
    rw [q] at h
    have e := s.obj i a o ha q
    cases o with
    | lst xs =>
      cases h
      obtain ⟨vs, h1, h2⟩ := e
      exact ⟨vs, SqL.of h1, h2⟩
    | rol xs =>
      cases h
      obtain ⟨vs, h1, h2, _⟩ := e
      exact ⟨vs, .inl h1, h2⟩
    | dct kvs => cases h
    | ins C fs => cases h
/-- the items of a tuple or list -/
def items (p : PV) (μ : Sto) : Option (List PV) := match p with
  | .tup ps => some ps
  | .ref i => seqAt μ i
  | _ => none
theorem items_of {μ : Sto} {p : PV} {v : V} {ps : List PV} (s : RSt P w K ρ H μ) (r : RV K ρ H p v) (h : items p μ = some ps) : ∃ a vs, v = .ref a ∧ (SqT K H a vs ∨ SqL K H a vs) ∧ RVs K ρ H ps vs := by
  cases r with
  | tup h1 h2 => cases h; exact ⟨_, _, rfl, .inl h1, h2⟩
  | ref ha =>
    obtain ⟨vs, h1, h2⟩ := seqAt_of s ha h
    exact ⟨_, vs, rfl, .inr h1, h2⟩
  | _ => cases h
/-- a value's truth -/
def truth (p : PV) (μ : Sto) : Option Bool := match p with
  | .non => some false
  | .bl b => some b
  | .int i => some (i != 0)
  | .str x => if x.length ≤ sizeLine then some ((x.length : Int) != 0) else none
  | .tup ps => some (!ps.isEmpty)
  | .ref i => (seqAt μ i).map fun ps => !ps.isEmpty
  | _ => none
theorem truth_of {μ : Sto} {p : PV} {v : V} {k : Bool} (s : RSt P w K ρ H μ) (r : RV K ρ H p v) (h : truth p μ = some k) : TruV K v H k := by
  cases r with
  | non => cases h; rfl
  | bl b => cases h; rfl
  | int i => cases h; rfl
  | str x =>
    have h : (if x.length ≤ sizeLine then some ((x.length : Int) != 0) else none) = some k := h
    by_cases c : x.length ≤ sizeLine
    · rw [if_pos c] at h
      cases h
      exact ⟨c, rfl⟩
    · rw [if_neg c] at h
      cases h
  | tup h1 h2 =>
    cases h
    exact .inr (.inl ⟨_, h1, by rw [h2.isEmpty]⟩)
  | ref ha =>
    obtain ⟨ps, e1, e2⟩ := Option.map_eq_some_iff.mp h
    subst e2
    obtain ⟨vs, h1, h2⟩ := seqAt_of s ha e1
    exact .inl ⟨vs, h1, by rw [h2.isEmpty]⟩
  | ty n => cases h
  | glb a => cases h
  | exc _ _ _ _ _ _ => cases h
end
/-- the truth of a value -/
def dTru (d : DE) : DT := fun η μ => (d η μ).bind fun p μ1 => match truth p μ1 with
  | some k => .ok k μ1
  | none => .bad
def dAndV (a b : DE) : DE := fun η μ => (a η μ).bind fun p μ1 => match truth p μ1 with
  | some k => if k = true then b η μ1 else .ok p μ1
  | none => .bad
def dNotV (a : DE) : DE := fun η μ => (a η μ).bind fun p μ1 => match truth p μ1 with
  | some k => .ok (.bl (!k)) μ1
  | none => .bad
def vTup : VF := fun ps μ => if ps.length ≤ sizeLine then .ok (.tup ps) μ else .bad
def vLst : VF := fun ps μ => if ps.length ≤ sizeLine then .ok (.ref μ.length) (μ ++ [.lst ps]) else .bad
/-- a[i] -/
def vItem : VF := fun xs μ => match xs with
  | [.tup ps, .int i] => match atI ps i with
    | some p => .ok p μ
    | none => .bad
  | [.ref j, .int i] => match (seqAt μ j).bind fun ps => atI ps i with
    | some p => .ok p μ
    | none => .bad
  | [.str z, .int i] => if z.length ≤ sizeLine then match atI z.cps.toList i with
      | some c => .ok (.str ⟨#[c]⟩) μ
      | none => .bad
    else .bad
  | _ => .bad
section
variable {P : Program} {w : World} {K : PySem.W.Frag} {W : EW} {ρ : List Addr} {H : Hp} {μ : Sto} {Q : VK}
/-- a tuple is handed back -/
theorem ok_tup {ps : List PV} {vs : List V} {p : Addr} (s : RSt P w K ρ H μ) (r : RVs K ρ H ps vs) (hp : H p = none) (h : Post P w K W ρ H (.ok (.tup ps) μ) (RV K) Q) : Q (.ref p) (upd H p (.tup vs)) :=
  h ρ (.ref p) _ (Step.quiet hp) (.tup (SqT.of upd_same) (r.step (Step.quiet hp))) (s.quiet hp)
/-- a new list is handed back -/
theorem ok_lst {ps : List PV} {vs : List V} {p : Addr} (s : RSt P w K ρ H μ) (r : RVs K ρ H ps vs) (hp : H p = none) (h : Post P w K W ρ H (.ok (.ref μ.length) (μ ++ [.lst ps])) (RV K) Q) : Q (.ref p) (upd H p (.lst vs)) :=
  h (ρ ++ [p]) (.ref p) _ (Step.new hp) (.ref s.nextId) (s.new hp ⟨vs, upd_same, r.step (Step.new hp)⟩)
end
section
variable {X : Cx} {W : EW}
theorem lt_tru {a : Expr} {d : DE} (h : LE X W a d) (he : ∀ whole, isTrue a X.env whole = (do let v ← whole; standAt a.pos; holding [v] (truthy v))) : LT X W a (dTru d) :=
  (pt_truth h he).impD fun σ H Q ⟨ρ, η, μ, en, s, q⟩ => ⟨ρ, η, μ, en, s, (Post.bind q).mono fun x H1 ⟨ρ1, a, μ1, st, r, s1, q1⟩ => by
    cases e : truth a μ1 with
    | none => rw [e] at q1; exact q1.elim
    | some k =>
      rw [e] at q1
      exact ⟨k, truth_of s1 r e, q1 ρ1 k H1 Step.refl rfl s1⟩⟩
theorem lt_not {a : Expr} {d : DT} {pos : Pos} (h : LT X W a d) : LT X W (.UnaryOp .Not a pos) (dNot d) :=
  (pt_not h).impD fun σ H Q ⟨ρ, η, μ, en, s, q⟩ => ⟨ρ, η, μ, en, s, (Post.bind q).mono fun x H1 ⟨ρ1, a, μ1, st, r, s1, q1⟩ => by
    subst r
    exact q1 ρ1 _ H1 Step.refl rfl s1⟩
theorem lw_or1 {a : Expr} {d : DT} {pos : Pos} (h : LT X W a d) : LW X W (.BoolOp .Or [a] pos) d := pw_or1 h
theorem lw_or {a b : Expr} {rest : List Expr} {d d' : DT} {pos : Pos} (h : LT X W a d) (h' : LW X W (.BoolOp .Or (b :: rest) pos) d') : LW X W (.BoolOp .Or (a :: b :: rest) pos) (dOr d d') :=
  (pw_or h h').impD fun σ H Q ⟨ρ, η, μ, en, s, q⟩ => ⟨ρ, η, μ, en, s, (Post.bind q).mono fun x H1 ⟨ρ1, a, μ1, st, r, s1, q1⟩ => by
    subst r
    by_cases c : a = true
    · rw [if_pos c] at q1 ⊢
      exact q1 ρ1 _ H1 Step.refl rfl s1
    · rw [if_neg c] at q1 ⊢
      exact ⟨ρ1, η, μ1, en.step st, s1, q1⟩⟩
theorem lt_w {a : Expr} {d : DT} (h : LW X W a d) : LT X W a d := PW.pt h
theorem le_if {c a b : Expr} {dc : DT} {da db : DE} {pos : Pos} (hc : LT X W c dc) (ha : LE X W a da) (hb : LE X W b db) : LE X W (.IfExp c a b pos) (dIf dc da db) :=
  (pe_ifExp hc ha hb).impD fun σ H Q ⟨ρ, η, μ, en, s, q⟩ => ⟨ρ, η, μ, en, s, (Post.bind q).mono fun x H1 ⟨ρ1, a, μ1, st, r, s1, q1⟩ => by
    subst r
    by_cases c : a = true
    · rw [if_pos c] at q1 ⊢
      exact ⟨ρ1, η, μ1, en.step st, s1, q1⟩
    · rw [if_neg c] at q1 ⊢
      exact ⟨ρ1, η, μ1, en.step st, s1, q1⟩⟩
theorem le_one {a : Expr} {op : BoolOp} {d : DE} {pos : Pos} (h : LE X W a d) : LE X W (.BoolOp op [a] pos) d := pe_one h
theorem le_and {a b : Expr} {rest : List Expr} {d d' : DE} {pos : Pos} (h : LE X W a d) (h' : LE X W (.BoolOp .And (b :: rest) pos) d') : LE X W (.BoolOp .And (a :: b :: rest) pos) (dAndV d d') :=
  (pe_andT h h').impD fun σ H Q ⟨ρ, η, μ, en, s, q⟩ => ⟨ρ, η, μ, en, s, (Post.bind q).mono fun x H1 ⟨ρ1, a, μ1, st, r, s1, q1⟩ => by
    cases e : truth a μ1 with
    | none => rw [e] at q1; exact q1.elim
    | some k =>
      rw [e] at q1
      refine ⟨k, truth_of s1 r e, ?_⟩
      by_cases c : k = true
      · simp only [c, if_true] at q1 ⊢
        exact ⟨ρ1, η, μ1, en.step st, s1, q1⟩
      · simp only [c, if_false] at q1 ⊢
        exact q1 ρ1 x H1 Step.refl r s1⟩
theorem le_not {a : Expr} {d : DE} {pos : Pos} (h : LE X W a d) : LE X W (.UnaryOp .Not a pos) (dNotV d) :=
  (pe_notT h).impD fun σ H Q ⟨ρ, η, μ, en, s, q⟩ => ⟨ρ, η, μ, en, s, (Post.bind q).mono fun x H1 ⟨ρ1, a, μ1, st, r, s1, q1⟩ => by
    cases e : truth a μ1 with
    | none => rw [e] at q1; exact q1.elim
    | some k =>
      rw [e] at q1
      exact ⟨k, truth_of s1 r e, q1 ρ1 _ H1 Step.refl (.bl _) s1⟩⟩
theorem le_tup {es : List Expr} {k : Nat} {pos : Pos} {ds : DA} (h : LA X W es ds) : LE X W (.Tuple es k pos) (dApp vTup ds) :=
  (pe_tup h).impD fun σ H Q h => (app_of h).mono fun vs H1 ⟨ρ, μ, ps, r, s, q⟩ => by
    unfold vTup at q
    by_cases c : ps.length ≤ sizeLine
    · rw [if_pos c] at q
      exact ⟨r.length ▸ c, fun p hp => ok_tup s r hp q⟩
    · rw [if_neg c] at q
      exact q.elim
theorem le_lst {es : List Expr} {pos : Pos} {ds : DA} (h : LA X W es ds) : LE X W (.List es pos) (dApp vLst ds) :=
  (pe_lst h).impD fun σ H Q h => (app_of h).mono fun vs H1 ⟨ρ, μ, ps, r, s, q⟩ => by
    unfold vLst at q
    by_cases c : ps.length ≤ sizeLine
    · rw [if_pos c] at q
      exact ⟨r.length ▸ c, fun p hp => ok_lst s r hp q⟩
    · rw [if_neg c] at q
      exact q.elim
theorem RVs.atI {K : PySem.W.Frag} {ρ : List Addr} {H : Hp} {ps : List PV} {vs : List V} {i : Int} {p : PV} (r : RVs K ρ H ps vs) (h : L2.atI ps i = some p) : ∃ v, L2.atI vs i = some v ∧ RV K ρ H p v := by
  unfold L2.atI at h ⊢
  rw [← r.length]
  cases e : ixN ps.length i with
  | none => rw [e] at h; cases h
  | some j =>
    rw [e] at h
    obtain ⟨v, h1, h2⟩ := r.get h
    exact ⟨v, h1, h2⟩
theorem oi_item : OI X W vItem := by
  intro value slice pins s σ H x y v u Q I rx ry h hs
  refine ix_seq value slice pins s σ H x y v u Q I rx ry ?_ hs
  obtain ⟨ρ, μ, ps, r, t, q⟩ := h
  cases r with
  | cons r1 r' =>
    cases r' with
    | cons r2 r'' =>
      cases r''
      cases r1 with
      | tup h1 h2 =>
        cases r2 with
        | int i =>
          rename_i ps vs a
          have q : Post X.prog X.w X.K W ρ H (match L2.atI ps i with | some p => .ok p μ | none => .bad) (RV X.K) Q := q
          cases e : L2.atI ps i with
          | none => rw [e] at q; exact q.elim
          | some p =>
            rw [e] at q
            obtain ⟨v1, e1, r1⟩ := h2.atI e
            exact .inr (.inl ⟨a, vs, i, v1, rfl, rfl, h1, e1, q ρ v1 H Step.refl r1 t⟩)
        | _ => exact q.elim
      | ref ha =>
        cases r2 with
        | int i =>
          rename_i j a
          have q : Post X.prog X.w X.K W ρ H (match (seqAt μ j).bind fun ps => L2.atI ps i with | some p => .ok p μ | none => .bad) (RV X.K) Q := q
          cases e : seqAt μ j with
          | none => rw [e] at q; exact q.elim
          | some ps =>
            rw [e, Option.bind_some] at q
            obtain ⟨vs, h1, h2⟩ := seqAt_of t ha e
            cases e2 : L2.atI ps i with
            | none => rw [e2] at q; exact q.elim
            | some p =>
              rw [e2] at q
              obtain ⟨v1, e1, r1⟩ := h2.atI e2
              exact .inl ⟨a, vs, i, v1, rfl, rfl, h1, e1, q ρ v1 H Step.refl r1 t⟩
        | _ => exact q.elim
      | str z =>
        cases r2 with
        | int i =>
          have q : Post X.prog X.w X.K W ρ H (if z.length ≤ sizeLine then (match L2.atI z.cps.toList i with | some c => .ok (.str ⟨#[c]⟩) μ | none => .bad) else .bad) (RV X.K) Q := q
          by_cases c : z.length ≤ sizeLine
          · rw [if_pos c] at q
            cases e : L2.atI z.cps.toList i with
            | none => rw [e] at q; exact q.elim
            | some k =>
              rw [e] at q
              exact .inr (.inr ⟨z, i, k, rfl, rfl, c, e, q ρ _ H Step.refl (.str _) t⟩)
          · rw [if_neg c] at q
            exact q.elim
        | _ => exact q.elim
      | _ => first | exact q.elim | (cases r2 <;> exact q.elim)
theorem le_item {a b : Expr} {f : VF} {d1 d2 : DE} {pos : Pos} (o : OI X W f) (h1 : LE X W a d1) (h2 : LE X W b d2) (hs : PlainIx b := by intro _ _; rfl) : LE X W (.Subscript a b pos) (dApp f (dCons d1 (dCons d2 dNil))) :=
  (pe_ix o h1 h2 hs).impD fun _ _ _ h => app2 h
end
end DL
namespace DL
open PySem PySem.Spec PyProof.Rows L2
namespace PV
mutual
def beq : PV → PV → Bool
  | .non, b => match b with | .non => true | _ => false
  | .bl x, b => match b with | .bl y => x == y | _ => false
  | .int x, b => match b with | .int y => decide (x = y) | _ => false
  | .str x, b => match b with | .str y => decide (x = y) | _ => false
  | .tup x, b => match b with | .tup y => beqs x y | _ => false
  | .ref x, b => match b with | .ref y => decide (x = y) | _ => false
  | .ty x, b => match b with | .ty y => decide (x = y) | _ => false
  | .glb x, b => match b with | .glb y => decide (x = y) | _ => false
  | .exc x p, b => match b with | .exc y q => decide (x = y) && beq p q | _ => false
def beqs : List PV → List PV → Bool
  | [], b => match b with | [] => true | _ => false
  | x :: xs, b => match b with | y :: ys => beq x y && beqs xs ys | _ => false
end
mutual
theorem beq_self : ∀ a : PV, beq a a = true
  | .non => rfl
  | .bl x => by simp [beq]
  | .int x => by simp [beq]
  | .str x => by simp [beq]
  | .tup x => by rw [beq]; exact beqs_self x
  | .ref x => by simp [beq]
  | .ty x => by simp [beq]
  | .glb x => by simp [beq]
  | .exc x p => by rw [beq, beq_self p]; simp
theorem beqs_self : ∀ a : List PV, beqs a a = true
  | [] => rfl
  | x :: xs => by rw [beqs, beq_self x, beqs_self xs]; rfl
end
mutual
theorem eq_of : ∀ a b : PV, beq a b = true → a = b
  | .non, b, h => by cases b <;> first | rfl | cases h
  | .bl x, b, h => by cases b <;> first | (simp only [beq, beq_iff_eq] at h; rw [h]) | cases h
  | .int x, b, h => by cases b <;> first | (simp only [beq, decide_eq_true_eq] at h; rw [h]) | cases h
  | .str x, b, h => by cases b <;> first | (simp only [beq, decide_eq_true_eq] at h; rw [h]) | cases h
  | .tup x, b, h => by
    cases b with
    | tup y => rw [beq] at h; rw [eqs_of x y h]
    | _ => cases h
  | .ref x, b, h => by cases b <;> first | (simp only [beq, decide_eq_true_eq] at h; rw [h]) | cases h
  | .ty x, b, h => by cases b <;> first | (simp only [beq, decide_eq_true_eq] at h; rw [h]) | cases h
  | .glb x, b, h => by cases b <;> first | (simp only [beq, decide_eq_true_eq] at h; rw [h]) | cases h
  | .exc x p, b, h => by
    cases b with
    | exc y q =>
      rw [beq, Bool.and_eq_true, decide_eq_true_eq] at h
      rw [h.1, eq_of p q h.2]
    | _ => cases h
theorem eqs_of : ∀ a b : List PV, beqs a b = true → a = b
  | [], b, h => by cases b <;> first | rfl | cases h
  | x :: xs, b, h => by
    cases b with
    | nil => cases h
    | cons y ys =>
      rw [beqs, Bool.and_eq_true] at h
      rw [eq_of x y h.1, eqs_of xs ys h.2]
end
instance : DecidableEq PV := fun a b => if h : beq a b = true then .isTrue (eq_of a b h) else .isFalse fun e => h (by rw [e]; exact beq_self b)
end PV
inductive Out where
  | nx | rt (v : PV) | bk | ct
inductive FOut where
  | nx (σ : L2.St) | rt (v : V) | bk (σ : L2.St) | ct (σ : L2.St)
inductive RO (K : PySem.W.Frag) (ρ : List Addr) (H : Hp) : Out × Env' → FOut → Prop
  | nx {η : Env'} {σ : L2.St} : REnv K ρ H η σ → RO K ρ H (.nx, η) (.nx σ)
  | rt {η : Env'} {p : PV} {v : V} : RV K ρ H p v → RO K ρ H (.rt p, η) (.rt v)
  | bk {η : Env'} {σ : L2.St} : REnv K ρ H η σ → RO K ρ H (.bk, η) (.bk σ)
  | ct {η : Env'} {σ : L2.St} : REnv K ρ H η σ → RO K ρ H (.ct, η) (.ct σ)
def endQ (D : L2.Ends) : FOut → Hp → Prop
  | .nx σ, H => D.nx σ H
  | .rt v, H => D.rt v H
  | .bk σ, H => D.bk σ H
  | .ct σ, H => D.ct σ H
abbrev DS := Env' → Sto → Rz (Out × Env')
section
variable (P : Program) (w : World) (K : PySem.W.Frag) (W : EW)
def TS' (d : DS) : TS := fun D σ H => ∃ ρ η μ, REnv K ρ H η σ ∧ RSt P w K ρ H μ ∧ Post P w K W ρ H (d η μ) (RO K) (endQ D)
end
abbrev LS (X : Cx) (W : EW) (st : Stmt) (d : DS) : Prop := PS X st (TS' X.prog X.w X.K W d)
abbrev LSs (X : Cx) (W : EW) (st : List Stmt) (d : DS) : Prop := PSs X st (TS' X.prog X.w X.K W d)
def sNil : DS := fun η μ => .ok (.nx, η) μ
def sSeq (a b : DS) : DS := fun η μ => (a η μ).bind fun o μ1 => match o.1 with
  | .nx => b o.2 μ1
  | _ => .ok o μ1
def sExpr (d : DE) : DS := fun η μ => (d η μ).bind fun _ μ1 => .ok (.nx, η) μ1
def sRet (d : DE) : DS := fun η μ => (d η μ).bind fun p μ1 => .ok (.rt p, η) μ1
def sIf (c : DT) (a b : DS) : DS := fun η μ => (c η μ).bind fun k μ1 => if k = true then a η μ1 else b η μ1
section
variable {X : Cx} {W : EW}
theorem lss_nil : LSs X W [] sNil := pss_nil.impD fun D σ H ⟨ρ, η, μ, en, s, q⟩ => q ρ (.nx σ) H Step.refl (.nx en) s
theorem seq_of {a b : DS} {D : L2.Ends} {σ : L2.St} {H : Hp} (h : TS' X.prog X.w X.K W (sSeq a b) D σ H) : TS' X.prog X.w X.K W a { D with nx := TS' X.prog X.w X.K W b D } σ H := by
  obtain ⟨ρ, η, μ, en, s, q⟩ := h
  refine ⟨ρ, η, μ, en, s, (Post.bind q).mono fun x H1 ⟨ρ1, o, μ1, st, r, s1, q1⟩ => ?_⟩
  cases r with
  | nx en1 => exact ⟨ρ1, _, μ1, en1, s1, q1⟩
  | rt r1 => exact q1 ρ1 _ H1 Step.refl (.rt r1) s1
  | bk en1 => exact q1 ρ1 _ H1 Step.refl (.bk en1) s1
  | ct en1 => exact q1 ρ1 _ H1 Step.refl (.ct en1) s1
theorem lss_cons {st : Stmt} {rest : List Stmt} {a b : DS} (h1 : LS X W st a) (h2 : LSs X W rest b) : LSs X W (st :: rest) (sSeq a b) := (pss_cons h1 h2).impD fun D σ H h => seq_of h
theorem lss_one {st : Stmt} {a : DS} (h1 : LS X W st a) : LSs X W [st] a := pss_one h1
theorem ls_expr {e : Expr} {d : DE} {pos : Pos} (h : LE X W e d) (hs : swapsWith e none pos.line X.env = pure false := by rfl) : LS X W (.Expr e pos) (sExpr d) :=
  (ps_expr h hs).impD fun D σ H ⟨ρ, η, μ, en, s, q⟩ => ⟨ρ, η, μ, en, s, (Post.bind q).mono fun x H1 ⟨ρ1, a, μ1, st, r, s1, q1⟩ => q1 ρ1 (.nx σ) H1 Step.refl (.nx (en.step st)) s1⟩
theorem ls_ret {e : Expr} {d : DE} {pos : Pos} (h : LE X W e d) : LS X W (.Return (some e) pos) (sRet d) :=
  (ps_ret h).impD fun D σ H ⟨ρ, η, μ, en, s, q⟩ => ⟨ρ, η, μ, en, s, (Post.bind q).mono fun x H1 ⟨ρ1, a, μ1, st, r, s1, q1⟩ => q1 ρ1 (.rt x) H1 Step.refl (.rt r) s1⟩
theorem ls_if {c : Expr} {a b : List Stmt} {dc : DT} {da db : DS} {pos : Pos} (hc : LT X W c dc) (ha : LSs X W a da) (hb : LSs X W b db) : LS X W (.If c a b pos) (sIf dc da db) :=
  (ps_if hc ha hb).impD fun D σ H ⟨ρ, η, μ, en, s, q⟩ => ⟨ρ, η, μ, en, s, (Post.bind q).mono fun x H1 ⟨ρ1, a, μ1, st, r, s1, q1⟩ => by
    subst r
    by_cases c : a = true
    · rw [if_pos c] at q1 ⊢
      exact ⟨ρ1, η, μ1, en.step st, s1, q1⟩
    · rw [if_neg c] at q1 ⊢
      exact ⟨ρ1, η, μ1, en.step st, s1, q1⟩⟩
end
/-- equal but for some slots -/
def Agree (js : List Nat) (σ σ' : L2.St) : Prop := σ'.length = σ.length ∧ ∀ i, i ∉ js → σ'[i]? = σ[i]?
theorem Agree.refl {js : List Nat} {σ : L2.St} : Agree js σ σ := ⟨rfl, fun _ _ => rfl⟩
theorem Agree.trans {js : List Nat} {σ σ1 σ2 : L2.St} (a : Agree js σ σ1) (b : Agree js σ1 σ2) : Agree js σ σ2 := ⟨b.1.trans a.1, fun i h => (b.2 i h).trans (a.2 i h)⟩
theorem Agree.mono {js ks : List Nat} {σ σ1 : L2.St} (a : Agree js σ σ1) (h : ∀ i ∈ js, i ∈ ks) : Agree ks σ σ1 := ⟨a.1, fun i hn => a.2 i fun z => hn (h i z)⟩
theorem wipe_get (σ : L2.St) (vs : List Nat) (i : Nat) : (wipe σ vs)[i]? = if i ∈ vs then (if i < σ.length then some none else none) else σ[i]? := by
  induction vs with
  | nil => simp [wipe]
  | cons v vs ih =>
    unfold wipe
    by_cases h : v = i
    · subst h
      rw [if_pos List.mem_cons_self]
      by_cases hl : v < σ.length
      · rw [List.getElem?_set_self (by rw [wipe_length]; exact hl), if_pos hl]
      · rw [List.getElem?_eq_none (by rw [List.length_set, wipe_length]; omega), if_neg hl]
    · rw [List.getElem?_set_ne h, ih]
      by_cases h2 : i ∈ vs
      · rw [if_pos h2, if_pos (List.mem_cons_of_mem _ h2)]
      · rw [if_neg h2, if_neg fun z => by
          rcases List.mem_cons.mp z with z | z
          · exact h z.symm
          · exact h2 z]
theorem Agree.wipe {js : List Nat} {σ σ' : L2.St} (a : Agree js σ σ') : L2.wipe σ' js = L2.wipe σ js := by
  refine List.ext_getElem? fun i => ?_
  rw [wipe_get, wipe_get, a.1]
  by_cases h : i ∈ js
  · rw [if_pos h, if_pos h]
  · rw [if_neg h, if_neg h, a.2 i h]
theorem wipe_wipe (σ : L2.St) (vs : List Nat) : L2.wipe (L2.wipe σ vs) vs = L2.wipe σ vs := by
  refine List.ext_getElem? fun i => ?_
  rw [wipe_get, wipe_get, wipe_length]
  by_cases h : i ∈ vs
  · rw [if_pos h, if_pos h]
  · rw [if_neg h, if_neg h]
def wipeE (η : Env') (vs : List Nat) : Env' := vs.foldr (fun v e => e.set v none) η
theorem REnv.wipe {K : PySem.W.Frag} {ρ : List Addr} {H : Hp} {η : Env'} {σ : L2.St} (h : REnv K ρ H η σ) : ∀ vs : List Nat, REnv K ρ H (wipeE η vs) (L2.wipe σ vs)
  | [] => h
  | v :: vs => by
    have ih := REnv.wipe h vs
    refine ⟨?_, fun i p e => ?_⟩
    · show ((wipeE η vs).set v none).length = ((L2.wipe σ vs).set v none).length
      rw [List.length_set, List.length_set]
      exact ih.1
    · have e : ((wipeE η vs).set v none)[i]? = some (some p) := e
      show ∃ w', ((L2.wipe σ vs).set v none)[i]? = some (some w') ∧ _
      by_cases hv : v = i
      · subst hv
        by_cases hl : v < (wipeE η vs).length
        · rw [List.getElem?_set_self hl] at e
          cases e
        · rw [List.getElem?_eq_none (by rw [List.length_set]; omega)] at e
          cases e
      · rw [List.getElem?_set_ne hv] at e ⊢
        exact ih.2 i p e
abbrev DG := PV → Env' → Sto → Rz Env'
section
variable (P : Program) (w : World) (K : PySem.W.Frag) (W : EW)
def RG (js : List Nat) (σ : L2.St) (ρ : List Addr) (H : Hp) (η' : Env') (σ' : L2.St) : Prop := REnv K ρ H η' σ' ∧ Agree js σ σ'
def TG' (js : List Nat) (g : DG) : TG := fun v σ H Q => ∃ ρ η μ p, REnv K ρ H η σ ∧ RV K ρ H p v ∧ RSt P w K ρ H μ ∧ Post P w K W ρ H (g p η μ) (RG K js σ) Q
def TGs' (js : List Nat) (g : List PV → Env' → Sto → Rz Env') : TGs := fun vs σ H Q => ∃ ρ η μ ps, REnv K ρ H η σ ∧ RVs K ρ H ps vs ∧ RSt P w K ρ H μ ∧ Post P w K W ρ H (g ps η μ) (RG K js σ) Q
end
abbrev LG (X : Cx) (W : EW) (js : List Nat) (t : Expr) (g : DG) : Prop := PG X t (TG' X.prog X.w X.K W js g)
abbrev LGs (X : Cx) (W : EW) (js : List Nat) (ts : List Expr) (g : List PV → Env' → Sto → Rz Env') : Prop := PGs X ts (TGs' X.prog X.w X.K W js g)
theorem _root_.L2.PG.impD {X : Cx} {t : Expr} {g g' : TG} (h : PG X t g) (i : ∀ v σ H Q, g' v σ H Q → g v σ H Q) : PG X t g' := ⟨fun pins s σ H v u Q I r hw => h.run pins s σ H v u Q I r (i _ _ _ _ hw)⟩
theorem _root_.L2.PGs.impD {X : Cx} {t : List Expr} {g g' : TGs} (h : PGs X t g) (i : ∀ v σ H Q, g' v σ H Q → g v σ H Q) : PGs X t g' := ⟨fun pins s σ H v u Q I r hw => h.run pins s σ H v u Q I r (i _ _ _ _ hw)⟩
def gSet (i : Nat) : DG := fun p η μ => .ok (η.set i (some p)) μ
def gNil' : List PV → Env' → Sto → Rz Env' := fun ps η μ => match ps with
  | [] => .ok η μ
  | _ => .bad
def gCons' (g : DG) (gs : List PV → Env' → Sto → Rz Env') : List PV → Env' → Sto → Rz Env' := fun ps η μ => match ps with
  | p :: r => (g p η μ).bind fun η1 μ1 => gs r η1 μ1
  | [] => .bad
/-- (a, b, ..) = a tuple or a list of so many -/
def gTupA (n : Nat) (gs : List PV → Env' → Sto → Rz Env') : DG := fun p η μ => match items p μ with
  | some ps => if ps.length = n then gs ps η μ else .bad
  | none => .bad
section
variable {X : Cx} {W : EW} {js ks : List Nat}
theorem lg_name {i : Nat} {x : Str} {pos : Pos} (h : PG X (.Name x pos) (gName i)) : LG X W [i] (.Name x pos) (gSet i) := h.impD fun v σ H Q ⟨ρ, η, μ, p, en, r, s, q⟩ =>
  q ρ _ H Step.refl ⟨en.set r i, ⟨by rw [List.length_set], fun j hj => List.getElem?_set_ne fun e => hj (by rw [e]; exact List.mem_singleton.mpr rfl)⟩⟩ s
theorem LG.wide {t : Expr} {g : DG} (h : LG X W js t g) (hs : ∀ i ∈ js, i ∈ ks) : LG X W ks t g := h.impD fun v σ H Q ⟨ρ, η, μ, p, en, r, s, q⟩ => ⟨ρ, η, μ, p, en, r, s, by
  cases e : g p η μ with
  | ok a μ' =>
    rw [e] at q
    exact fun ρ' x H' st rel s' => q ρ' x H' st ⟨rel.1, rel.2.mono hs⟩ s'
  | err C v μ' => rw [e] at q; exact q
  | bad => rw [e] at q; exact q⟩
theorem lgs_nil : LGs X W js [] gNil' := pgs_nil.impD fun vs σ H Q ⟨ρ, η, μ, ps, en, r, s, q⟩ => by
  cases r with
  | nil => exact ⟨rfl, q ρ σ H Step.refl ⟨en, .refl⟩ s⟩
  | cons _ _ => exact q.elim
theorem lgs_cons {e : Expr} {es : List Expr} {g : DG} {gs : List PV → Env' → Sto → Rz Env'} (h1 : LG X W js e g) (h2 : LGs X W js es gs)
    (hs : (assignEach (e :: es) X.env).map (·.2) = assign e X.env :: (assignEach es X.env).map (·.2) := by rfl) : LGs X W js (e :: es) (gCons' g gs) := (pgs_cons h1 h2 hs).impD fun vs σ H Q ⟨ρ, η, μ, ps, en, r, s, q⟩ => by
  cases r with
  | nil => exact q.elim
  | cons r1 r2 =>
    refine ⟨_, _, rfl, ρ, η, μ, _, en, r1, s, (Post.bind q).mono fun σ1 H1 ⟨ρ1, η1, μ1, st, rel, s1, q1⟩ => ?_⟩
    refine ⟨ρ1, η1, μ1, _, rel.1, r2.step st, s1, ?_⟩
    revert q1
    generalize gs _ η1 μ1 = res
    intro q1
    cases res with
    | ok a μ' => exact fun ρ' x H' st' rel' s' => q1 ρ' x H' st' ⟨rel'.1, rel.2.trans rel'.2⟩ s'
    | err C v μ' => exact q1
    | bad => exact q1
theorem lg_tup {es : List Expr} {k n : Nat} {pos : Pos} {gs : List PV → Env' → Sto → Rz Env'} (hc : X.calm = true) (h : LGs X W js es gs)
    (hn : (assignEach es X.env).length = n := by rfl) (hst : (assignEach es X.env).findIdx? (·.1) = none := by rfl) : LG X W js (.Tuple es k pos) (gTupA n gs) := by
  refine ⟨fun pins s σ H v u Q I r hw => ?_⟩
  obtain ⟨ρ, η, μ, p, en, rp, t, q⟩ := hw
  unfold gTupA at q
  cases e : items p μ with
  | none => rw [e] at q; exact q.elim
  | some ps =>
    rw [e] at q
    by_cases c : ps.length = n
    · simp only [if_pos c] at q
      obtain ⟨a, vs, e1, e2, e3⟩ := items_of t rp e
      rcases e2 with e2 | e2
      · exact (pg_tup hc h hn hst).run pins s σ H v u Q I r ⟨a, vs, e1, e2, by rw [← e3.length]; exact c, ρ, η, μ, ps, en, e3, t, q⟩
      · exact (L2.pg_unl hc h hn hst).run pins s σ H v u Q I r ⟨a, vs, e1, e2, by rw [← e3.length]; exact c, ρ, η, μ, ps, en, e3, t, q⟩
    · simp only [if_neg c] at q
      exact q.elim
/-- target = value -/
def sAsg (d : DE) (g : DG) : DS := fun η μ => (d η μ).bind fun p μ1 => (g p η μ1).bind fun η' μ2 => .ok (.nx, η') μ2
theorem asg_of {d : DE} {g : DG} {D : L2.Ends} {σ : L2.St} {H : Hp} (h : TS' X.prog X.w X.K W (sAsg d g) D σ H) : tAsg (T X.prog X.w X.K W d) (TG' X.prog X.w X.K W js g) D σ H := by
  obtain ⟨ρ, η, μ, en, s, q⟩ := h
  refine ⟨ρ, η, μ, en, s, (Post.bind q).mono fun x H1 ⟨ρ1, a, μ1, st, r, s1, q1⟩ => ?_⟩
  refine ⟨ρ1, η, μ1, a, en.step st, r, s1, (Post.bind q1).mono fun σ2 H2 ⟨ρ2, η2, μ2, st2, r2, s2, q2⟩ => ?_⟩
  exact q2 ρ2 (.nx σ2) H2 Step.refl (.nx r2.1) s2
theorem ls_asg {tg e : Expr} {d : DE} {g : DG} {pos : Pos} (he : LE X W e d) (hg : LG X W js tg g) (hs : swapsWithSole [tg] e pos.line X.env = pure false := by rfl) (hw : swappedStores [tg] e X.env = pure none := by rfl)
    (h1 : (assignEach [tg] X.env).map (·.2) = [assign tg X.env] := by rfl) : LS X W (.Assign [tg] e pos) (sAsg d g) := (ps_asg he hg hs hw h1).impD fun D σ H h => asg_of h
end
end DL
namespace DL
open PySem PySem.Spec PyProof.Rows L2
/-- what is walked: the items, and what must stand at each turn -/
structure Wk (P : Program) (w : World) (K : PySem.W.Frag) (J : It) (ρ0 : List Addr) (H0 : Hp) (its : List PV) (gd : Sto → Bool) : Prop where
  go : ∀ (i : Nat) (p : PV) (ρ : List Addr) (H : Hp) (μ : Sto), Grow K ρ0 H0 ρ H → RSt P w K ρ H μ → gd μ = true → its[i]? = some p →
    J.go i H ∧ ∀ x H', J.yld i H x H' → Step K ρ H ρ H' ∧ RSt P w K ρ H' μ ∧ RV K ρ H' p x
  stop : ∀ (ρ : List Addr) (H : Hp) (μ : Sto), Grow K ρ0 H0 ρ H → RSt P w K ρ H μ → gd μ = true → J.stop its.length H
abbrev DI := Env' → Sto → Rz (List PV × (Sto → Bool))
section
variable (P : Program) (w : World) (K : PySem.W.Frag) (W : EW)
def RI (ρ : List Addr) (H : Hp) (x : List PV × (Sto → Bool)) (J : It) : Prop := Wk P w K J ρ H x.1 x.2
def TI' (d : DI) : TI := fun σ H R => ∃ ρ η μ, REnv K ρ H η σ ∧ RSt P w K ρ H μ ∧ Post P w K W ρ H (d η μ) (RI P w K) R
end
abbrev LI (X : Cx) (W : EW) (tg it : Expr) (d : DI) : Prop := PI X tg it (TI' X.prog X.w X.K W d)
theorem _root_.L2.PI.impD {X : Cx} {tg e : Expr} {t t' : TI} (h : PI X tg e t) (i : ∀ σ H R, t' σ H R → t σ H R) : PI X tg e t' := ⟨fun pins s σ H R I hw => h.run pins s σ H R I (i _ _ _ hw)⟩
def forGo (gd : Sto → Bool) (g : DG) (body : DS) : List PV → Env' → Sto → Rz (Out × Env')
  | [], η, μ => if gd μ = true then .ok (.nx, η) μ else .bad
  | p :: rest, η, μ => if gd μ = true then (g p η μ).bind fun η1 μ1 => (body η1 μ1).bind fun o μ2 => match o.1 with
      | .nx => forGo gd g body rest o.2 μ2
      | .ct => forGo gd g body rest o.2 μ2
      | .bk => .ok (.nx, o.2) μ2
      | .rt v => .ok (.rt v, o.2) μ2
    else .bad
def sFor (di : DI) (g : DG) (body : DS) : DS := fun η μ => (di η μ).bind fun x μ1 => forGo x.2 g body x.1 η μ1
section
variable {X : Cx} {W : EW} {js : List Nat}
theorem ls_for {tg iter : Expr} {body : List Stmt} {di : DI} {g : DG} {db : DS} {pos : Pos} (hp : PassesOwn (model X.prog X.w) X.A X.env X.xe) (hc : X.calm = true) (hi : LI X W tg iter di) (hg : LG X W js tg g) (hb : LSs X W body db)
    (hs : ∀ x, foldedSetIterable iter X.env x = pure x := by intro _; rfl) : LS X W (.For tg iter body [] pos) (sFor di g db) := (ps_for hp hc hi hg hb hs).impD fun D σ H ⟨ρ, η, μ, en, s, q⟩ => by
  refine ⟨ρ, η, μ, en, s, (Post.bind q).mono fun J H1 ⟨ρ1, a, μ1, st, wk, s1, q1⟩ => ?_⟩
  obtain ⟨its, gd⟩ := a
  have wk : Wk X.prog X.w X.K J ρ1 H1 its gd := wk
  refine ⟨fun i m σ H => i + m = its.length ∧ ∃ ρ2 η μ2, Grow X.K ρ1 H1 ρ2 H ∧ REnv X.K ρ2 H η σ ∧ RSt X.prog X.w X.K ρ2 H μ2 ∧ Post X.prog X.w X.K W ρ2 H (forGo gd g db (its.drop i) η μ2) (RO X.K) (endQ D), ⟨its.length, Nat.zero_add _, ρ1, η, μ1, Step.refl.grow, en.step st, s1, q1⟩, ?_⟩
  rintro i m σ2 H2 ⟨hm, ρ2, η2, μ2, gr, en2, s2, q2⟩
  cases e : its.drop i with
  | nil =>
    left
    rw [e] at q2
    unfold forGo at q2
    by_cases c : gd μ2 = true
    · rw [if_pos c] at q2
      have hl : its.length ≤ i := List.drop_eq_nil_iff.mp e
      exact ⟨(show i = its.length by omega) ▸ wk.stop ρ2 H2 μ2 gr s2 c, q2 ρ2 (.nx σ2) H2 Step.refl (.nx en2) s2⟩
    · rw [if_neg c] at q2
      exact q2.elim
  | cons p rest =>
    right
    have hp : its[i]? = some p := by
      have := congrArg (fun l => l[0]?) e
      simpa using this
    have hr : its.drop (i + 1) = rest := by
      rw [← List.drop_drop, e]
      rfl
    have hi : i < its.length := (List.getElem?_eq_some_iff.mp hp).1
    rw [e] at q2
    unfold forGo at q2
    by_cases c : gd μ2 = true
    · rw [if_pos c] at q2
      obtain ⟨h1, h2⟩ := wk.go i p ρ2 H2 μ2 gr s2 c hp
      refine ⟨h1, fun σ' H' => (i + 1) + (m - 1) = its.length ∧ ∃ ρ2 η μ2, Grow X.K ρ1 H1 ρ2 H' ∧ REnv X.K ρ2 H' η σ' ∧ RSt X.prog X.w X.K ρ2 H' μ2 ∧ Post X.prog X.w X.K W ρ2 H' (forGo gd g db rest η μ2) (RO X.K) (endQ D), fun σ' H' ⟨k1, k2⟩ => ⟨m - 1, by omega, k1, by rw [hr]; exact k2⟩, fun x H3 hy => ?_⟩
      obtain ⟨st3, s3, r3⟩ := h2 x H3 hy
      refine ⟨ρ2, η2, μ2, p, en2.step st3, r3, s3, (Post.bind (Post.step st3 q2)).mono fun σ4 H4 ⟨ρ4, η4, μ4, st4, rel4, s4, q4⟩ => ?_⟩
      refine ⟨ρ4, η4, μ4, rel4.1, s4, (Post.bind q4).mono fun x5 H5 ⟨ρ5, o5, μ5, st5, rel5, s5, q5⟩ => ?_⟩
      have gr5 : Grow X.K ρ1 H1 ρ5 H5 := ⟨fun j a ha => st5.get (st4.get (st3.get (gr.get j a ha))), fun b xs hb => st5.tup _ _ (st4.tup _ _ (st3.tup _ _ (gr.tup _ _ hb))), ((gr.dct.trans st3.dct).trans st4.dct).trans st5.dct, fun b o u hb => st5.fz _ _ _ (st4.fz _ _ _ (st3.fz _ _ _ (gr.fz _ _ _ hb)))⟩
      cases rel5 with
      | nx en5 => exact ⟨by omega, ρ5, _, μ5, gr5, en5, s5, q5⟩
      | ct en5 => exact ⟨by omega, ρ5, _, μ5, gr5, en5, s5, q5⟩
      | bk en5 => exact q5 ρ5 (.nx _) H5 Step.refl (.nx en5) s5
      | rt r5 => exact q5 ρ5 (.rt _) H5 Step.refl (.rt r5) s5
    · rw [if_neg c] at q2
      exact q2.elim
end
/-- nothing is raised -/
def EW0 : EW := fun _ _ _ _ _ => False
/-- an error that would leave a comprehension is not served -/
def calmR {α : Type} (r : Rz α) : Rz α := match r with
  | .ok a μ => .ok a μ
  | _ => .bad
theorem Post.calm {α β : Type} {P : Program} {w : World} {K : PySem.W.Frag} {W W' : EW} {ρ : List Addr} {H : Hp} {r : Rz α} {Rel : List Addr → Hp → α → β → Prop} {Q : β → Hp → Prop} (h : Post P w K W ρ H (calmR r) Rel Q) : Post P w K W' ρ H r Rel Q := by
  cases r with
  | ok a μ => exact h
  | err C v μ => exact h.elim
  | bad => exact h
def lcGo (gd : Sto → Bool) (g : DG) (tt : DT) (el : Env' → Sto → List PV → Rz (List PV)) (η : Env') : List PV → List PV → Sto → Rz (List PV)
  | [], acc, μ => if gd μ = true then .ok acc μ else .bad
  | p :: rest, acc, μ => if gd μ = true then (calmR (g p η μ)).bind fun η1 μ1 => (calmR (tt η1 μ1)).bind fun k μ2 =>
      if k = true then (calmR (el η1 μ2 acc)).bind fun acc' μ3 => lcGo gd g tt el η rest acc' μ3
      else lcGo gd g tt el η rest acc μ2
    else .bad
/-- one more item -/
def elOne (d : DE) : Env' → Sto → List PV → Rz (List PV) := fun η μ acc => if acc.length < sizeLine then (d η μ).bind fun p μ1 => .ok (acc ++ [p]) μ1 else .bad
def tYes' : DT := fun _ μ => .ok true μ
/-- the list is handed back -/
def lcEnd : List PV → Sto → Rz PV := fun acc μ => .ok (.ref μ.length) (μ ++ [.lst acc])
def dLc (di : DI) (g : DG) (tt : DT) (d : DE) (vs : List Nat) : DE := fun η μ => (di η μ).bind fun x μ1 => (lcGo x.2 g tt (elOne d) (wipeE η vs) x.1 [] μ1).bind lcEnd
abbrev LTs (X : Cx) (W : EW) (ifs : List Expr) (d : DT) : Prop := PTs X ifs (TB X.prog X.w X.K W d)
theorem _root_.L2.PTs.impD {X : Cx} {ifs : List Expr} {t t' : TT} (h : PTs X ifs t) (i : ∀ σ H Q, t' σ H Q → t σ H Q) : PTs X ifs t' := ⟨fun pins s σ H Q I hw => h.run pins s σ H Q I (i _ _ _ hw)⟩
section
variable {X : Cx} {W : EW}
theorem lts_nil : LTs X W [] tYes' := pts_nil.impD fun σ H Q ⟨ρ, η, μ, en, s, q⟩ => q ρ true H Step.refl rfl s
end
/-- the invariant of a comprehension's loop: D is the list that grows, acc what it holds -/
structure LcI (P : Program) (w : World) (K : PySem.W.Frag) (ρ1 : List Addr) (H1 : Hp) (D : Addr) (ρ : List Addr) (H : Hp) (μ : Sto) (acc : List PV) : Prop where
  st : Step K ρ1 H1 ρ H
  rs : RSt P w K ρ H μ
  nD : D ∉ ρ
  at_ : ∃ vs, H D = some (.lst vs) ∧ RVs K ρ H acc vs
section
variable {P : Program} {w : World} {K : PySem.W.Frag} {ρ1 ρ ρ' : List Addr} {H1 H H' : Hp} {D : Addr} {μ μ' : Sto} {acc : List PV}
theorem LcI.step (x : LcI P w K ρ1 H1 D ρ H μ acc) (st : Step K ρ H ρ' H') (s : RSt P w K ρ' H' μ') : LcI P w K ρ1 H1 D ρ' H' μ' acc := by
  obtain ⟨vs, hD, r⟩ := x.at_
  refine ⟨x.st.trans st, s, fun hm => ?_, vs, st.keep D _ hD x.nD (fun _ z => nomatch z), r.step st⟩
  obtain ⟨more, e, f⟩ := st.ext
  rw [e] at hm
  rcases List.mem_append.mp hm with hm | hm
  · exact x.nD hm
  · exact f D hm _ hD fun _ z => nomatch z
theorem LcI.push (x : LcI P w K ρ1 H1 D ρ H μ acc) (h0 : H1 D = none) {p : PV} {y : V} (r : RV K ρ H p y) : ∃ vs, H D = some (.lst vs) ∧ vs.length = acc.length ∧ LcI P w K ρ1 H1 D ρ (upd H D (.lst (vs ++ [y]))) μ (acc ++ [p]) := by
  obtain ⟨vs, hD, rs⟩ := x.at_
  have hm : Mut (H D) := by rw [hD]; trivial
  have gr : Grow K ρ H ρ (upd H D (.lst (vs ++ [y]))) := Grow.write hm (DW.lst hD)
  exact ⟨vs, hD, rs.length.symm, x.st.over h0 hm (DW.lst hD) (nc_lst.code hD), x.rs.over x.nD hm (DW.lst hD) (nc_lst.code hD), x.nD, _, upd_same, (rs.append (.cons r .nil)).grow gr⟩
theorem LcI.start (s : RSt P w K ρ1 H1 μ) (h0 : H1 D = none) : LcI P w K ρ1 H1 D ρ1 (upd H1 D (.lst [])) μ [] :=
  ⟨Step.quiet h0, s.quiet h0, s.fresh h0, [], upd_same, .nil⟩
theorem LcI.done (x : LcI P w K ρ1 H1 D ρ H μ acc) (h0 : H1 D = none) {W : EW} {Q : VK} (q : Post P w K W ρ1 H1 (.ok (.ref μ.length) (μ ++ [.lst acc])) (RV K) Q) : Q (.ref D) H := by
  obtain ⟨vs, hD, rs⟩ := x.at_
  have gr : Grow K ρ H (ρ ++ [D]) H := ⟨fun i a ha => by
    rw [List.getElem?_append_left (List.getElem?_eq_some_iff.mp ha).1]
    exact ha, fun _ _ h => h, DKeep.refl, fun _ _ _ h => h⟩
  obtain ⟨more, e, f⟩ := x.st.ext
  refine q (ρ ++ [D]) (.ref D) H ⟨⟨more ++ [D], by rw [e, List.append_assoc], fun p hp o ho => ?_⟩, x.st.keep, x.st.tup, x.st.live, x.st.dct, x.st.fz, fun p hp h => (x.st.tbl p hp h).num hD nc_lst⟩ (.ref ?_) ⟨by simp [x.rs.len], ?_, fun i a o ha ho => ?_, fun p hp => (x.rs.tab p hp).num hD nc_lst⟩
  · rcases List.mem_append.mp hp with hp | hp
    · exact f p hp o ho
    · rw [List.mem_singleton.mp hp, h0] at ho
      cases ho
  · rw [x.rs.len, List.getElem?_append_right (Nat.le_refl _), Nat.sub_self]
    rfl
  · rw [List.nodup_append]
    refine ⟨x.rs.nd, by simp, fun a ha b hb => ?_⟩
    rw [List.mem_singleton.mp hb]
    exact fun e => x.nD (e ▸ ha)
  · by_cases hi : i < ρ.length
    · rw [List.getElem?_append_left hi] at ha
      rw [List.getElem?_append_left (by rw [x.rs.len]; exact hi)] at ho
      exact (x.rs.obj i a o ha ho).step gr fun _ h => h
    · have e : i = ρ.length := by
        have := (List.getElem?_eq_some_iff.mp ha).1
        simp at this
        omega
      subst e
      rw [List.getElem?_append_right (Nat.le_refl _), Nat.sub_self] at ha
      rw [List.getElem?_append_right (by rw [x.rs.len]; exact Nat.le_refl _), x.rs.len, Nat.sub_self] at ho
      cases ha
      cases ho
      exact ⟨vs, hD, rs.grow gr⟩
end
section
variable {X : Cx} {W : EW} {js : List Nat}
theorem lc_of {di : DI} {g : DG} {tt : DT} {d : DE} {vs : List Nat} {σ : L2.St} {H : Hp} {Q : VK} (hj : ∀ i ∈ js, i ∈ vs) (h : T X.prog X.w X.K W (dLc di g tt d vs) σ H Q) :
    tLc (TI' X.prog X.w X.K W di) (TG' X.prog X.w X.K EW0 js g) (TB X.prog X.w X.K EW0 tt) (T X.prog X.w X.K EW0 d) vs σ H Q := by
  obtain ⟨ρ, η, μ, en, s, q⟩ := h
  refine ⟨ρ, η, μ, en, s, (Post.bind q).mono fun J H1 ⟨ρ1, a, μ1, st, wk, s1, q1⟩ => ?_⟩
  obtain ⟨its, gd⟩ := a
  have wk : Wk X.prog X.w X.K J ρ1 H1 its gd := wk
  have en1 : REnv X.K ρ1 H1 (wipeE η vs) (wipe σ vs) := (en.step st).wipe vs
  intro D hD0
  refine ⟨fun i m H2 => i + m = its.length ∧ ∃ ρ2 μ2 acc, LcI X.prog X.w X.K ρ1 H1 D ρ2 H2 μ2 acc ∧
      Post X.prog X.w X.K W ρ1 H1 ((lcGo gd g tt (elOne d) (wipeE η vs) (its.drop i) acc μ2).bind lcEnd) (RV X.K) Q, ⟨its.length, Nat.zero_add _, ρ1, μ1, [], LcI.start s1 hD0, q1⟩, ?_⟩
  rintro i m H2 ⟨hm, ρ2, μ2, acc, li, q2⟩
  cases e : its.drop i with
  | nil =>
    left
    rw [e] at q2
    unfold lcGo at q2
    by_cases c : gd μ2 = true
    · rw [if_pos c] at q2
      have hl : its.length ≤ i := List.drop_eq_nil_iff.mp e
      exact ⟨(show i = its.length by omega) ▸ wk.stop ρ2 H2 μ2 li.st.grow li.rs c, li.done hD0 q2⟩
    · rw [if_neg c] at q2
      exact q2.elim
  | cons p rest =>
    right
    have hp : its[i]? = some p := by
      have := congrArg (fun l => l[0]?) e
      simpa using this
    have hr : its.drop (i + 1) = rest := by
      rw [← List.drop_drop, e]
      rfl
    have hi : i < its.length := (List.getElem?_eq_some_iff.mp hp).1
    rw [e] at q2
    unfold lcGo at q2
    by_cases c : gd μ2 = true
    · rw [if_pos c] at q2
      obtain ⟨h1, h2⟩ := wk.go i p ρ2 H2 μ2 li.st.grow li.rs c hp
      refine ⟨h1, fun H' => (i + 1) + (m - 1) = its.length ∧ ∃ ρ2 μ2 acc, LcI X.prog X.w X.K ρ1 H1 D ρ2 H' μ2 acc ∧
        Post X.prog X.w X.K W ρ1 H1 ((lcGo gd g tt (elOne d) (wipeE η vs) rest acc μ2).bind lcEnd) (RV X.K) Q, fun H' ⟨k1, k2⟩ => ⟨m - 1, by omega, k1, by rw [hr]; exact k2⟩, fun x H3 hy => ?_⟩
      obtain ⟨st3, s3, r3⟩ := h2 x H3 hy
      have li3 := li.step st3 s3
      have en3 : REnv X.K ρ2 H3 (wipeE η vs) (wipe σ vs) := en1.step li3.st
      cases eg : g p (wipeE η vs) μ2 with
      | ok η1 μ4 =>
        rw [eg] at q2
        refine ⟨ρ2, _, μ2, p, en3, r3, s3, ?_⟩
        rw [eg]
        intro ρ4 σ4 H4 st4 rel4 s4
        have li4 := li3.step st4 s4
        refine ⟨by rw [(rel4.2.mono hj).wipe, wipe_wipe], ?_⟩
        have q2 : Post X.prog X.w X.K W ρ1 H1 (((calmR (tt η1 μ4)).bind fun k μ2 => if k = true then (calmR (elOne d η1 μ2 acc)).bind fun acc' μ3 => lcGo gd g tt (elOne d) (wipeE η vs) rest acc' μ3 else lcGo gd g tt (elOne d) (wipeE η vs) rest acc μ2).bind lcEnd) (RV X.K) Q := q2
        cases et : tt η1 μ4 with
        | ok k μ5 =>
          rw [et] at q2
          refine ⟨ρ4, η1, μ4, rel4.1, s4, ?_⟩
          rw [et]
          intro ρ5 k' H5 st5 rel5 s5
          subst rel5
          have li5 := li4.step st5 s5
          have q2 : Post X.prog X.w X.K W ρ1 H1 ((if k = true then (calmR (elOne d η1 μ5 acc)).bind fun acc' μ3 => lcGo gd g tt (elOne d) (wipeE η vs) rest acc' μ3 else lcGo gd g tt (elOne d) (wipeE η vs) rest acc μ5).bind lcEnd) (RV X.K) Q := q2
          by_cases ck : k = true
          · simp only [if_pos ck] at q2 ⊢
            unfold elOne at q2
            by_cases cl : acc.length < sizeLine
            · simp only [if_pos cl] at q2
              refine ⟨ρ5, η1, μ5, rel4.1.step st5, s5, ?_⟩
              cases ee : d η1 μ5 with
              | ok pe μ6 =>
                rw [ee] at q2
                intro ρ6 y H6 st6 r6 s6
                have li6 := li5.step st6 s6
                obtain ⟨ws, e1, e2, li7⟩ := li6.push hD0 r6
                exact ⟨ws, e1, by rw [e2]; exact cl, by omega, ρ6, μ6, _, li7, q2⟩
              | err C v μ6 => rw [ee] at q2; exact q2.elim
              | bad => rw [ee] at q2; exact q2.elim
            · simp only [if_neg cl] at q2
              exact q2.elim
          · simp only [if_neg ck] at q2 ⊢
            exact ⟨by omega, ρ5, μ5, acc, li5, q2⟩
        | err C v μ5 => rw [et] at q2; exact q2.elim
        | bad => rw [et] at q2; exact q2.elim
      | err C v μ4 => rw [eg] at q2; exact q2.elim
      | bad => rw [eg] at q2; exact q2.elim
    · rw [if_neg c] at q2
      exact q2.elim
end
end DL
namespace DL
open PySem PySem.Spec PyProof.Rows L2
/-- a def keeps this promise: it reckons the function F -/
def spD (P : Program) (w : World) (K : PySem.W.Frag) (n : Nat) (F : VF) : Sp := fun vs H Q _ => vs.length = n ∧ rL P w K EW0 F vs H Q
/-- a def's function by its body: np parameters, n names -/
def fnBody (np n : Nat) (d : DS) : VF := fun ps μ => if ps.length = np then (d (ps.map some ++ List.replicate (n - np) none) μ).bind fun o μ1 => match o.1 with
  | .rt v => .ok v μ1
  | .nx => .ok .non μ1
  | _ => .bad
  else .bad
/-- so many arguments, or none -/
def Ar (n : Nat) (F : VF) : Prop := ∀ ps μ, ps.length ≠ n → F ps μ = .bad
theorem fnBody_ar {np n : Nat} {d : DS} : Ar np (fnBody np n d) := fun ps μ h => if_neg h
theorem Ar.len {n : Nat} {F : VF} (a : Ar n F) {P : Program} {w : World} {K : PySem.W.Frag} {W : EW} {ρ : List Addr} {H : Hp} {ps : List PV} {μ : Sto} {Q : VK} (h : Post P w K W ρ H (F ps μ) (RV K) Q) : ps.length = n := Decidable.byContradiction fun c => by
  rw [a ps μ c] at h
  exact h
theorem REnv.start {K : PySem.W.Frag} {ρ : List Addr} {H : Hp} {ps : List PV} {vs : List V} (r : RVs K ρ H ps vs) (N : List Str) : REnv K ρ H (ps.map some ++ List.replicate (N.length - ps.length) none) (start N vs) := by
  have hl := r.length
  refine ⟨by simp [L2.start, hl], fun i p e => ?_⟩
  unfold L2.start
  by_cases h : i < ps.length
  · rw [List.getElem?_append_left (by simpa using h), List.getElem?_map] at e
    cases q : ps[i]? with
    | none => rw [q] at e; cases e
    | some p' =>
      rw [q] at e
      cases e
      obtain ⟨v, h1, h2⟩ := r.get q
      exact ⟨v, by rw [List.getElem?_append_left (by simpa [← hl] using h), List.getElem?_map, h1]; rfl, h2⟩
  · rw [List.getElem?_append_right (by simpa using Nat.le_of_not_lt h)] at e
    have := List.mem_of_getElem? e
    rw [List.mem_replicate] at this
    cases this.2
section
variable {P : Program} {w : World} {K : PySem.W.Frag} {mg : Str → Option Value} {base : Heap}
theorem fn_ok {x qual : Str} {st : Stmt} {f : Addr} {fd : FuncData} {N ps : List Str} {k : Nat} {d : DS} (F : Fun K x qual st f fd) (S : FnScope N ps (defScope st))
    (h : ∀ (cdv : Value) (A : Around) (outer : List Env) (s : Shared) (H : Hp) (E : XK), Room k (A.deeper (envOfC qual (defScope st) s.heap.objs.size f cdv)) →
      LSs (cxOf CX0 P w K mg base N qual (defScope st) f cdv A outer s H E).nox EW0 (defBody st) d) : FnOk P w K mg base CX0 (k + 1) f fd ps (spD P w K ps.length (fnBody ps.length N.length d)) := by
  refine F.ok S (fun vs H Q E h => h.1) fun cdv A outer s H vs Q E hr hsp => ⟨_, h cdv A outer s H E hr, ?_⟩
  obtain ⟨_, ρ, μ, qs, r, t, q⟩ := hsp
  have hl : qs.length = ps.length := fnBody_ar.len q
  have en0 := REnv.start r N
  rw [hl] at en0
  unfold fnBody at q
  rw [if_pos hl] at q
  refine ⟨ρ, _, μ, en0, t, (Post.bind q).mono fun x H1 ⟨ρ1, o, μ1, st1, rel, s1, q1⟩ => ?_⟩
  cases rel with
  | nx en => exact q1 ρ1 .non H1 Step.refl .non s1
  | rt r1 => exact q1 ρ1 _ H1 Step.refl r1 s1
  | bk en => exact q1.elim
  | ct en => exact q1.elim
end
section
variable {X : Cx} {k n : Nat} {f C g p0 : Addr} {fd : FuncData} {ps : List Str} {F : VF} {x m : Str} {p pos apos : Pos} {e o : Expr} {es : List Expr} {ds : DA} {d : DE}
theorem sp_of {vs : List V} {H : Hp} {Q : VK} (hF : Ar n F) (h : rL X.prog X.w X.K EW0 F vs H Q) (E : XK := E0) : spD X.prog X.w X.K n F (vs ++ []) H Q E := by
  obtain ⟨ρ, μ, qs, r, t, q⟩ := h
  rw [List.append_nil]
  exact ⟨by rw [← r.length]; exact hF.len q, ρ, μ, qs, r, t, q⟩
theorem le_call (G : FnOk X.prog X.w X.K X.mg X.base CX0 k f fd ps (spD X.prog X.w X.K n F)) (hF : Ar n F) (hr : Room k X.A) (hg : Gl X x) (hm : X.mg x = some (.ref f)) (hk : PySem.W.keepIn X.K (.ref f) = true) (hb : Binds X.K fd ps []) (ha : LA X EW0 (e :: es) ds)
    (hdb : (x == ("__debug__" : Str)) = false := by decide) (he : starEach (e :: es) X.env = (false, eval e X.env) :: starEach es X.env := by rfl) (hpl : (backTo pos (starEach es X.env)).any (·.1) = false := by rfl) :
    LE X EW0 (.Call (.Name x p) (e :: es) [] pos) (dApp F ds) := (pe_call G hr hg hm hk hb .nil (pass0 (X := X)) ha hdb he hpl).impD fun σ H Q h => (app_of h).mono fun vs H1 h => sp_of hF h
end
end DL
namespace DL
open PySem PySem.Spec PyProof.Rows L2
section
variable {K : PySem.W.Frag} {ρ : List Addr} {H : Hp} {P : Program} {w : World} {μ : Sto}
theorem RVs.one {ps : List PV} {x : V} (r : RVs K ρ H ps [x]) : ∃ p, ps = [p] ∧ RV K ρ H p x := by
  cases r with
  | cons r1 r2 => cases r2; exact ⟨_, rfl, r1⟩
theorem RVs.two {ps : List PV} {x y : V} (r : RVs K ρ H ps [x, y]) : ∃ p q, ps = [p, q] ∧ RV K ρ H p x ∧ RV K ρ H q y := by
  cases r with
  | cons r1 r2 =>
    obtain ⟨q, rfl, r3⟩ := r2.one
    exact ⟨_, q, rfl, r1, r3⟩
end
def isLst (μ : Sto) (i : Nat) : Option (List PV) := match μ[i]? with
  | some (.lst ps) => some ps
  | _ => none
theorem isLst_of {K : PySem.W.Frag} {ρ : List Addr} {H : Hp} {P : Program} {w : World} {μ : Sto} {i : Nat} {a : Addr} {ps : List PV} (s : RSt P w K ρ H μ) (ha : ρ[i]? = some a) (h : isLst μ i = some ps) : ∃ vs, H a = some (.lst vs) ∧ RVs K ρ H ps vs := by
  unfold isLst at h
  cases q : μ[i]? with
  | none => rw [q] at h; cases h
  | some o =>
    rw [q] at h
    cases o with
    | lst xs =>
      cases h
      exact s.obj i a _ ha q
    | _ => cases h
def vAdd : VF := fun xs μ => match xs with
  | [.int i, .int j] => .ok (.int (i + j)) μ
  | [.str x, .str y] => if x.length + y.length ≤ sizeLine then .ok (.str (x ++ y)) μ else .bad
  | [.tup ps, .tup qs] => if ps.length + qs.length ≤ sizeLine then .ok (.tup (ps ++ qs)) μ else .bad
  | [.ref i, .ref j] => match isLst μ i, isLst μ j with
    | some ps, some qs => if ps.length + qs.length ≤ sizeLine then .ok (.ref μ.length) (μ ++ [.lst (ps ++ qs)]) else .bad
    | _, _ => .bad
  | _ => .bad
def vMul : VF := fun xs μ => match xs with
  | [.int i, .int j] => if (-(2 ^ 64) < i ∧ i < 2 ^ 64) ∨ (-(2 ^ 64) < j ∧ j < 2 ^ 64) then .ok (.int (i * j)) μ else .bad
  | [.ref i, .int k] => match isLst μ i with
    | some ps => if -(2 ^ 63) ≤ k ∧ k < 2 ^ 63 ∧ ps.length * k.toNat ≤ sizeLine then .ok (.ref μ.length) (μ ++ [.lst (List.replicate k.toNat ps).flatten]) else .bad
    | none => .bad
  | [.tup ps, .int k] => if ps ≠ [] ∧ 2 ≤ k ∧ k ≤ 1000 ∧ ps.length ≤ 1000 then .ok (.tup (List.replicate k.toNat ps).flatten) μ else .bad
  | _ => .bad
def vDiv : VF := fun xs μ => match xs with
  | [.int i, .int j] => if 0 < j ∧ j.natAbs.log2 < 9000 then .ok (.int (i / j)) μ else .bad
  | _ => .bad
def vMod : VF := fun xs μ => match xs with
  | [.int i, .int j] => if 0 < j then .ok (.int (i % j)) μ else .bad
  | _ => .bad
def vPow : VF := fun xs μ => match xs with
  | [.int i, .int j] => if 0 ≤ j ∧ (Builtin.Int.intBits i : Int) * j ≤ 2 ^ 27 then .ok (.int (i ^ j.toNat)) μ else .bad
  | _ => .bad
def vNeg : VF := fun xs μ => match xs with
  | [.int i] => .ok (.int (-i)) μ
  | _ => .bad
section
variable {X : Cx} {W : EW}
/-- the tactic's words: the two values, the function's way -/
theorem o2_of {op : Value → Value → Sem Value} {f : VF} (h : ∀ (pins : List (Addr × Obj)) (s : Shared) (σ : L2.St) (H : Hp) (x y : V) (v u : Value) (Q : VK) (ρ : List Addr) (μ : Sto) (p q : PV), Inv X pins σ H s → RelV x v → RelV y u → RV X.K ρ H p x → RV X.K ρ H q y → RSt X.prog X.w X.K ρ H μ →
    Post X.prog X.w X.K W ρ H (f [p, q] μ) (RV X.K) Q → wpAny (model X.prog X.w) X.A (op v u) (EP X pins σ Q) X.xe s) : O2 X W op f := by
  intro pins s σ H x y v u Q I rx ry ⟨ρ, μ, ps, r, t, q⟩
  obtain ⟨a, b, rfl, r1, r2⟩ := r.two
  exact h pins s σ H x y v u Q ρ μ a b I rx ry r1 r2 t q
theorem o2_add : O2 X W (binaryOp .Add) vAdd := o2_of fun pins s σ H x y v u Q ρ μ p q I rx ry r1 r2 t h => by
  cases r1 with
  | int i =>
    cases r2 with
    | int j => exact op_add pins s σ H _ _ v u Q I rx ry ⟨i, j, rfl, rfl, h ρ _ H Step.refl (.int _) t⟩
    | _ => exact h.elim
  | str a =>
    cases r2 with
    | str b =>
      have h : Post X.prog X.w X.K W ρ H (if a.length + b.length ≤ sizeLine then .ok (.str (a ++ b)) μ else .bad) (RV X.K) Q := h
      by_cases c : a.length + b.length ≤ sizeLine
      · rw [if_pos c] at h
        exact op_add_str pins s σ H _ _ v u Q I rx ry ⟨a, b, rfl, rfl, c, h ρ _ H Step.refl (.str _) t⟩
      · rw [if_neg c] at h
        exact h.elim
    | _ => exact h.elim
  | @tup ps vs a h1 h2 =>
    cases r2 with
    | @tup qs ws b k1 k2 =>
      have h : Post X.prog X.w X.K W ρ H (if ps.length + qs.length ≤ sizeLine then .ok (.tup (ps ++ qs)) μ else .bad) (RV X.K) Q := h
      by_cases c : ps.length + qs.length ≤ sizeLine
      · rw [if_pos c] at h
        refine op_catA pins s σ H _ _ v u Q I rx ry ⟨a, b, vs, ws, rfl, rfl, h1, k1, by rw [← h2.length, ← k2.length]; exact c, fun e => ?_, fun _ e => ?_, fun _ _ p hp => ok_tup t (h2.append k2) hp h⟩
        · subst e
          cases h2
          exact h ρ _ H Step.refl (.tup k1 k2) t
        · subst e
          cases k2
          rw [List.append_nil] at h
          exact h ρ _ H Step.refl (.tup h1 h2) t
      · rw [if_neg c] at h
        exact h.elim
    | _ => exact h.elim
  | @ref i a ha =>
    cases r2 with
    | @ref j b hb =>
      have h : Post X.prog X.w X.K W ρ H (match isLst μ i, isLst μ j with
        | some ps, some qs => if ps.length + qs.length ≤ sizeLine then .ok (.ref μ.length) (μ ++ [.lst (ps ++ qs)]) else .bad
        | _, _ => .bad) (RV X.K) Q := h
      cases e1 : isLst μ i with
      | none => rw [e1] at h; exact h.elim
      | some ps =>
        cases e2 : isLst μ j with
        | none => rw [e1, e2] at h; exact h.elim
        | some qs =>
          rw [e1, e2] at h
          obtain ⟨vs, h1, h2⟩ := isLst_of t ha e1
          obtain ⟨ws, k1, k2⟩ := isLst_of t hb e2
          by_cases c : ps.length + qs.length ≤ sizeLine
          · simp only [if_pos c] at h
            exact op_cat pins s σ H _ _ v u Q I rx ry ⟨a, b, vs, ws, rfl, rfl, h1, k1, by rw [← h2.length, ← k2.length]; exact c, fun p hp => ok_lst t (h2.append k2) hp h⟩
          · simp only [if_neg c] at h
            exact h.elim
    | _ => exact h.elim
  | _ => exact h.elim
theorem o2_mul : O2 X W (binaryOp .Mult) vMul := o2_of fun pins s σ H x y v u Q ρ μ p q I rx ry r1 r2 t h => by
  cases r1 with
  | int i =>
    cases r2 with
    | int j =>
      have h : Post X.prog X.w X.K W ρ H (if (-(2 ^ 64) < i ∧ i < 2 ^ 64) ∨ (-(2 ^ 64) < j ∧ j < 2 ^ 64) then .ok (.int (i * j)) μ else .bad) (RV X.K) Q := h
      by_cases c : (-(2 ^ 64) < i ∧ i < 2 ^ 64) ∨ (-(2 ^ 64) < j ∧ j < 2 ^ 64)
      · rw [if_pos c] at h
        exact op_mul pins s σ H _ _ v u Q I rx ry ⟨i, j, rfl, rfl, c, h ρ _ H Step.refl (.int _) t⟩
      · rw [if_neg c] at h
        exact h.elim
    | _ => exact h.elim
  | @ref i a ha =>
    cases r2 with
    | int k =>
      have h : Post X.prog X.w X.K W ρ H (match isLst μ i with
        | some ps => if -(2 ^ 63) ≤ k ∧ k < 2 ^ 63 ∧ ps.length * k.toNat ≤ sizeLine then .ok (.ref μ.length) (μ ++ [.lst (List.replicate k.toNat ps).flatten]) else .bad
        | none => .bad) (RV X.K) Q := h
      cases e1 : isLst μ i with
      | none => rw [e1] at h; exact h.elim
      | some ps =>
        rw [e1] at h
        obtain ⟨vs, h1, h2⟩ := isLst_of t ha e1
        by_cases c : -(2 ^ 63) ≤ k ∧ k < 2 ^ 63 ∧ ps.length * k.toNat ≤ sizeLine
        · simp only [if_pos c] at h
          exact op_rep pins s σ H _ _ v u Q I rx ry ⟨a, k, vs, rfl, rfl, h1, c.1, c.2.1, by rw [← h2.length]; exact c.2.2, fun p hp => ok_lst t (h2.replicate _) hp h⟩
        · simp only [if_neg c] at h
          exact h.elim
    | _ => exact h.elim
  | @tup ps vs a h1 h2 =>
    cases r2 with
    | int k =>
      have h : Post X.prog X.w X.K W ρ H (if ps ≠ [] ∧ 2 ≤ k ∧ k ≤ 1000 ∧ ps.length ≤ 1000 then .ok (.tup (List.replicate k.toNat ps).flatten) μ else .bad) (RV X.K) Q := h
      by_cases c : ps ≠ [] ∧ 2 ≤ k ∧ k ≤ 1000 ∧ ps.length ≤ 1000
      · rw [if_pos c] at h
        refine op_repT pins s σ H _ _ v u Q I rx ry ⟨a, k, vs, rfl, rfl, h1, fun e => ?_, c.2.1, c.2.2.1, by rw [← h2.length]; exact c.2.2.2, fun p hp => ok_tup t (h2.replicate _) hp h⟩
        subst e
        cases h2
        exact c.1 rfl
      · rw [if_neg c] at h
        exact h.elim
    | _ => exact h.elim
  | _ => exact h.elim
theorem o2_div : O2 X W (binaryOp .FloorDiv) vDiv := o2_of fun pins s σ H x y v u Q ρ μ p q I rx ry r1 r2 t h => by
  cases r1 with
  | int i =>
    cases r2 with
    | int j =>
      have h : Post X.prog X.w X.K W ρ H (if 0 < j ∧ j.natAbs.log2 < 9000 then .ok (.int (i / j)) μ else .bad) (RV X.K) Q := h
      by_cases c : 0 < j ∧ j.natAbs.log2 < 9000
      · rw [if_pos c] at h
        exact op_fdivW pins s σ H _ _ v u Q I rx ry ⟨i, j, rfl, rfl, c, h ρ _ H Step.refl (.int _) t⟩
      · rw [if_neg c] at h
        exact h.elim
    | _ => exact h.elim
  | _ => exact h.elim
theorem o2_mod : O2 X W (binaryOp .Mod) vMod := o2_of fun pins s σ H x y v u Q ρ μ p q I rx ry r1 r2 t h => by
  cases r1 with
  | int i =>
    cases r2 with
    | int j =>
      have h : Post X.prog X.w X.K W ρ H (if 0 < j then .ok (.int (i % j)) μ else .bad) (RV X.K) Q := h
      by_cases c : 0 < j
      · rw [if_pos c] at h
        exact op_mod pins s σ H _ _ v u Q I rx ry ⟨i, j, rfl, rfl, c, h ρ _ H Step.refl (.int _) t⟩
      · rw [if_neg c] at h
        exact h.elim
    | _ => exact h.elim
  | _ => exact h.elim
theorem o2_pow : O2 X W (binaryOp .Pow) vPow := o2_of fun pins s σ H x y v u Q ρ μ p q I rx ry r1 r2 t h => by
  cases r1 with
  | int i =>
    cases r2 with
    | int j =>
      have h : Post X.prog X.w X.K W ρ H (if 0 ≤ j ∧ (Builtin.Int.intBits i : Int) * j ≤ 2 ^ 27 then .ok (.int (i ^ j.toNat)) μ else .bad) (RV X.K) Q := h
      by_cases c : 0 ≤ j ∧ (Builtin.Int.intBits i : Int) * j ≤ 2 ^ 27
      · rw [if_pos c] at h
        obtain ⟨tx, rfl⟩ := rx
        obtain ⟨ty, rfl⟩ := ry
        exact pow_int c.1 c.2 ⟨.int _, H, I.tok _, ⟨_, rfl⟩, h ρ _ H Step.refl (.int _) t⟩
      · rw [if_neg c] at h
        exact h.elim
    | _ => exact h.elim
  | _ => exact h.elim
theorem o1_neg : O1 X W (unaryOp .USub) vNeg := by
  intro pins s σ H x v Q I rx ⟨ρ, μ, ps, r, t, h⟩
  obtain ⟨p, rfl, r1⟩ := r.one
  cases r1 with
  | int i => exact un_neg pins s σ H _ v Q I rx ⟨i, rfl, h ρ _ H Step.refl (.int _) t⟩
  | _ => exact h.elim
end
def pdatL (f : PV → Option PyData) : List PV → Option (List PyData)
  | [] => some []
  | p :: ps => match f p with
    | some d => match pdatL f ps with
      | some ds => some (d :: ds)
      | none => none
    | none => none
/-- a value as data, so deep at most -/
def pdat (μ : Sto) : Nat → PV → Option PyData
  | 0 => fun p => match p with
    | .non => some .none
    | .bl b => some (.bool b)
    | .int i => some (.int i)
    | .str x => some (.str x)
    | _ => none
  | n + 1 => fun p => match p with
    | .non => some .none
    | .bl b => some (.bool b)
    | .int i => some (.int i)
    | .str x => some (.str x)
    | .tup ps => (pdatL (pdat μ n) ps).map .tuple
    | .ref i => match seqAt μ i with
      | some ps => (pdatL (pdat μ n) ps).map .list
      | none => none
    | _ => none
section
variable {K : PySem.W.Frag} {ρ : List Addr} {H : Hp} {P : Program} {w : World} {μ : Sto}
theorem pdatL_of {f : PV → Option PyData} (hf : ∀ p v d, RV K ρ H p v → f p = some d → Dp K H v d) : ∀ {ps : List PV} {vs : List V} {ds : List PyData}, RVs K ρ H ps vs → pdatL f ps = some ds → DpAll K H vs ds
  | _, _, _, .nil, h => by cases h; exact .nil
  | _, _, ds, .cons (p := p) (ps := ps) r t, h => by
    unfold pdatL at h
    cases e : f p with
    | none => rw [e] at h; cases h
    | some d =>
      rw [e] at h
      cases e2 : pdatL f ps with
      | none => rw [e2] at h; cases h
      | some ds' =>
        rw [e2] at h
        cases h
        exact .cons (hf p _ d r e) (pdatL_of hf t e2)
theorem pdat_of (s : RSt P w K ρ H μ) : ∀ (n : Nat) (p : PV) (v : V) (d : PyData), RV K ρ H p v → pdat μ n p = some d → Dp K H v d
  | 0, _, _, _, r, h => by
    cases r with
    | non => cases h; exact .non
    | bl b => cases h; exact .bl b
    | int i => cases h; exact .int i
    | str x => cases h; exact .str x
    | _ => cases h
  | n + 1, _, _, _, r, h => by
    cases r with
    | non => cases h; exact .non
    | bl b => cases h; exact .bl b
    | int i => cases h; exact .int i
    | str x => cases h; exact .str x
    | @tup ps vs a h1 h2 =>
      obtain ⟨ds, e1, rfl⟩ := Option.map_eq_some_iff.mp (show (pdatL (pdat μ n) ps).map PyData.tuple = some _ from h)
      exact .tup h1 (pdatL_of (fun p v d => pdat_of s n p v d) h2 e1)
    | @ref i a ha =>
      have h : (match seqAt μ i with | some ps => (pdatL (pdat μ n) ps).map PyData.list | none => none) = some _ := h
      cases e : seqAt μ i with
      | none => rw [e] at h; cases h
      | some ps =>
        rw [e] at h
        obtain ⟨ds, e1, rfl⟩ := Option.map_eq_some_iff.mp h
        obtain ⟨vs, h1, h2⟩ := seqAt_of s ha e
        exact .lst h1 (pdatL_of (fun p v d => pdat_of s n p v d) h2 e1)
    | _ => cases h
end
/-- p == q of data -/
def vEq : VF := fun xs μ => match xs with
  | [p, q] => match pdat μ 12 p, pdat μ 12 q with
    | some d, some e => if (SeqAt.shaped d && SeqAt.shaped e) = true then .ok (.bl (PyData.eqv d e)) μ else .bad
    | _, _ => .bad
  | _ => .bad
def vNe : VF := fun xs μ => match xs with
  | [p, q] => match pdat μ 12 p, pdat μ 12 q with
    | some d, some e => if (SeqAt.shaped d && SeqAt.shaped e) = true then .ok (.bl (!PyData.eqv d e)) μ else .bad
    | _, _ => .bad
  | _ => .bad
def cmpI (f : Int → Int → Bool) : VF := fun xs μ => match xs with
  | [.int i, .int j] => .ok (.bl (f i j)) μ
  | _ => .bad
def vLt : VF := cmpI fun i j => decide (i < j)
def vGt : VF := cmpI fun i j => decide (j < i)
def vGe : VF := cmpI fun i j => decide (j ≤ i)
/-- one text within another -/
def strIn (x z : Str) : Bool := if x.cps.size = 1 then decide (x.cps.getD 0 0 ∈ z.cps.toList) else !(Builtin.Str.occurrences z x 0 z.length 1).isEmpty
/-- p in a text, a tuple, a list: whether -/
def inSeq (μ : Sto) (p c : PV) : Option Bool := match c with
  | .str z => match p with
    | .str x => some (strIn x z)
    | _ => none
  | _ => match pdat μ 12 p, pdat μ 12 c with
    | some d, some (.list ds) => if (SeqAt.shaped d && SeqAt.shaped (.list ds)) = true then some (ds.any fun z => PyData.eqv z d) else none
    | some d, some (.tuple ds) => if (SeqAt.shaped d && SeqAt.shaped (.tuple ds)) = true then some (ds.any fun z => PyData.eqv z d) else none
    | _, _ => none
section
variable {X : Cx} {W : EW}
theorem o2_eq (hu : X.A.units + 64 < cLine) : O2 X W (compareOp .Eq) vEq := o2_of fun pins s σ H x y v u Q ρ μ p q I rx ry r1 r2 t h => by
  have h : Post X.prog X.w X.K W ρ H (match pdat μ 12 p, pdat μ 12 q with
    | some d, some e => if (SeqAt.shaped d && SeqAt.shaped e) = true then .ok (.bl (PyData.eqv d e)) μ else .bad
    | _, _ => .bad) (RV X.K) Q := h
  cases e1 : pdat μ 12 p with
  | none => rw [e1] at h; exact h.elim
  | some d =>
    cases e2 : pdat μ 12 q with
    | none => rw [e1, e2] at h; exact h.elim
    | some e =>
      rw [e1, e2] at h
      by_cases c : (SeqAt.shaped d && SeqAt.shaped e) = true
      · simp only [if_pos c] at h
        rw [Bool.and_eq_true] at c
        exact op_eqD hu pins s σ H x y v u Q I rx ry ⟨d, e, pdat_of t 12 p x d r1 e1, pdat_of t 12 q y e r2 e2, c.1, c.2, h ρ _ H Step.refl (.bl _) t⟩
      · simp only [if_neg c] at h
        exact h.elim
theorem o2_ne (hu : X.A.units + 64 < cLine) : O2 X W (compareOp .NotEq) vNe := o2_of fun pins s σ H x y v u Q ρ μ p q I rx ry r1 r2 t h => by
  have h : Post X.prog X.w X.K W ρ H (match pdat μ 12 p, pdat μ 12 q with
    | some d, some e => if (SeqAt.shaped d && SeqAt.shaped e) = true then .ok (.bl (!PyData.eqv d e)) μ else .bad
    | _, _ => .bad) (RV X.K) Q := h
  cases e1 : pdat μ 12 p with
  | none => rw [e1] at h; exact h.elim
  | some d =>
    cases e2 : pdat μ 12 q with
    | none => rw [e1, e2] at h; exact h.elim
    | some e =>
      rw [e1, e2] at h
      by_cases c : (SeqAt.shaped d && SeqAt.shaped e) = true
      · simp only [if_pos c] at h
        rw [Bool.and_eq_true] at c
        exact op_neD hu pins s σ H x y v u Q I rx ry ⟨d, e, pdat_of t 12 p x d r1 e1, pdat_of t 12 q y e r2 e2, c.1, c.2, h ρ _ H Step.refl (.bl _) t⟩
      · simp only [if_neg c] at h
        exact h.elim
theorem o2_cmpI {op : CmpOp} {f : Int → Int → Bool} (hr : OpR X (compareOp op) (rI0 fun i j => .bl (f i j))) : O2 X W (compareOp op) (cmpI f) := o2_of fun pins s σ H x y v u Q ρ μ p q I rx ry r1 r2 t h => by
  cases r1 with
  | int i =>
    cases r2 with
    | int j => exact hr pins s σ H _ _ v u Q I rx ry ⟨i, j, rfl, rfl, h ρ _ H Step.refl (.bl _) t⟩
    | _ => exact h.elim
  | _ => exact h.elim
theorem o2_lt : O2 X W (compareOp .Lt) vLt := o2_cmpI op_lt
theorem o2_gt : O2 X W (compareOp .Gt) vGt := o2_cmpI op_gt
theorem o2_ge : O2 X W (compareOp .GtE) vGe := o2_cmpI op_ge
end
end DL
namespace DL
open PySem PySem.Spec PyProof.Rows L2
def vInt : VF := fun xs μ => match xs with
  | [.int i] => .ok (.int i) μ
  | [.bl k] => .ok (.int (if k then 1 else 0)) μ
  | [.str a] => match PySem.intText? a with
    | some n => if a.length ≤ 640 then .ok (.int n) μ else .bad
    | none => .bad
  | _ => .bad
def vAbs : VF := fun xs μ => match xs with
  | [.int i] => .ok (.int (if i < 0 then -i else i)) μ
  | _ => .bad
def vMax2 : VF := fun xs μ => match xs with
  | [.int i, .int j] => .ok (.int (if j > i then j else i)) μ
  | _ => .bad
def vMin2 : VF := fun xs μ => match xs with
  | [.int i, .int j] => .ok (.int (if j < i then j else i)) μ
  | _ => .bad
def boolsL : List PV → Option (List Bool)
  | [] => some []
  | .bl i :: r => (boolsL r).map (i :: ·)
  | _ => none
def strsL : List PV → Option (List Str)
  | [] => some []
  | .str i :: r => (strsL r).map (i :: ·)
  | _ => none
/-- a function of one list, read so -/
def v1L {α : Type} (g : List PV → Option α) (k : α → PV) : VF := fun xs μ => match xs with
  | [.ref i] => match (seqAt μ i).bind g with
    | some a => .ok (k a) μ
    | none => .bad
  | _ => .bad
def vAny : VF := v1L boolsL fun ns => .bl (ns.any id)
def vAll : VF := v1L boolsL fun ns => .bl (ns.all id)
def vExtend : VF := fun xs μ => match xs with
  | [.ref i, .ref j] => match isLst μ i, isLst μ j with
    | some ps, some qs => if ps.length + qs.length ≤ sizeLine then .ok .non (μ.set i (.lst (ps ++ qs))) else .bad
    | _, _ => .bad
  | _ => .bad
section
variable {K : PySem.W.Frag} {ρ : List Addr} {H : Hp}
theorem boolsL_of : ∀ {ps : List PV} {vs : List V} {ns : List Bool}, RVs K ρ H ps vs → boolsL ps = some ns → vs = ns.map V.bl
  | _, _, _, .nil, h => by cases h; rfl
  | _, _, _, .cons r t, h => by
    cases r with
    | bl i =>
      obtain ⟨ms, e, rfl⟩ := Option.map_eq_some_iff.mp (show (boolsL _).map (i :: ·) = some _ from h)
      rw [boolsL_of t e]
      rfl
    | _ => cases h
end
section
variable {X : Cx} {W : EW}
theorem oc1_of {v : Value} {f : VF} (h : ∀ (pins : List (Addr × Obj)) (s : Shared) (σ : L2.St) (H : Hp) (xs : List V) (us : List Value) (Q : VK) (ρ : List Addr) (μ : Sto) (ps : List PV), Inv X pins σ H s → Vals xs us → RVs X.K ρ H ps xs → RSt X.prog X.w X.K ρ H μ →
    Post X.prog X.w X.K W ρ H (f ps μ) (RV X.K) Q → wpAny (model X.prog X.w) X.A (call v us) (EP X pins σ Q) X.xe s) : OC X W v f := fun pins s σ H xs us Q I r ⟨ρ, μ, ps, rp, t, q⟩ => h pins s σ H xs us Q ρ μ ps I r rp t q
theorem om_of {id : String} {f : VF} (h : ∀ (pins : List (Addr × Obj)) (s : Shared) (σ : L2.St) (H : Hp) (x : V) (xs : List V) (v : Value) (us : List Value) (Q : VK) (ρ : List Addr) (μ : Sto) (p : PV) (ps : List PV), Inv X pins σ H s → RelV x v → Vals xs us → RV X.K ρ H p x → RVs X.K ρ H ps xs → RSt X.prog X.w X.K ρ H μ →
    Post X.prog X.w X.K W ρ H (f (p :: ps) μ) (RV X.K) Q → wpAny (model X.prog X.w) X.A (call (.builtin id) (v :: us)) (EP X pins σ Q) X.xe s) : OM X W id f := fun pins s σ H x xs v us Q I rx r ⟨ρ, μ, ps, rp, t, q⟩ => by
  cases rp with
  | cons r1 r2 => exact h pins s σ H x xs v us Q ρ μ _ _ I rx r r1 r2 t q
theorem oc_int : OC X W (.type "int") vInt := oc1_of fun pins s σ H xs us Q ρ μ ps I r rp t h => by
  cases rp with
  | nil => exact h.elim
  | cons r1 r2 =>
    cases r2 with
    | nil =>
      cases r1 with
      | int i => exact call_int1 pins s σ H _ us Q I r (.inl ⟨i, rfl, h ρ _ H Step.refl (.int _) t⟩)
      | bl k => exact call_int1 pins s σ H _ us Q I r (.inr ⟨k, rfl, h ρ _ H Step.refl (.int _) t⟩)
      | str a =>
        have h : Post X.prog X.w X.K W ρ H (match PySem.intText? a with | some n => if a.length ≤ 640 then .ok (.int n) μ else .bad | none => .bad) (RV X.K) Q := h
        cases e : PySem.intText? a with
        | none => rw [e] at h; exact h.elim
        | some n =>
          rw [e] at h
          by_cases c : a.length ≤ 640
          · simp only [if_pos c] at h
            exact call_int_str pins s σ H _ us Q I r ⟨a, n, rfl, e, c, h ρ _ H Step.refl (.int _) t⟩
          · simp only [if_neg c] at h
            exact h.elim
      | _ => exact h.elim
    | cons _ _ => cases r1 <;> exact h.elim
theorem oc_abs : OC X W (.builtin "abs") vAbs := oc1_of fun pins s σ H xs us Q ρ μ ps I r rp t h => by
  cases rp with
  | nil => exact h.elim
  | cons r1 r2 =>
    cases r2 with
    | nil =>
      cases r1 with
      | int i => exact call_abs pins s σ H _ us Q I r ⟨i, rfl, h ρ _ H Step.refl (.int _) t⟩
      | _ => exact h.elim
    | cons _ _ => cases r1 <;> exact h.elim
theorem oc_max2 (hc : X.calm = true) : OC X W (.builtin "max") vMax2 := oc1_of fun pins s σ H xs us Q ρ μ ps I r rp t h => by
  cases rp with
  | nil => exact h.elim
  | cons r1 r2 =>
    cases r2 with
    | nil => cases r1 <;> exact h.elim
    | cons r3 r4 =>
      cases r4 with
      | nil =>
        cases r1 with
        | int i =>
          cases r3 with
          | int j => exact call_max2 hc pins s σ H _ us Q I r ⟨i, j, rfl, h ρ _ H Step.refl (.int _) t⟩
          | _ => exact h.elim
        | _ => exact h.elim
      | cons _ _ => cases r1 <;> first | exact h.elim | (cases r3 <;> exact h.elim)
theorem oc_min2 (hc : X.calm = true) : OC X W (.builtin "min") vMin2 := oc1_of fun pins s σ H xs us Q ρ μ ps I r rp t h => by
  cases rp with
  | nil => exact h.elim
  | cons r1 r2 =>
    cases r2 with
    | nil => cases r1 <;> exact h.elim
    | cons r3 r4 =>
      cases r4 with
      | nil =>
        cases r1 with
        | int i =>
          cases r3 with
          | int j => exact call_min2 hc pins s σ H _ us Q I r ⟨i, j, rfl, h ρ _ H Step.refl (.int _) t⟩
          | _ => exact h.elim
        | _ => exact h.elim
      | cons _ _ => cases r1 <;> first | exact h.elim | (cases r3 <;> exact h.elim)
/-- one list -/
theorem list1 {α : Type} {g : List PV → Option α} {k : α → PV} {K : PySem.W.Frag} {ρ : List Addr} {H : Hp} {ps : List PV} {xs : List V} {μ : Sto} {P : Program} {w : World} {Q : VK}
    (rp : RVs K ρ H ps xs) (t : RSt P w K ρ H μ) (h : Post P w K W ρ H (v1L g k ps μ) (RV K) Q) :
    ∃ a vs qs x, xs = [.ref a] ∧ SqL K H a vs ∧ RVs K ρ H qs vs ∧ g qs = some x ∧ Post P w K W ρ H (.ok (k x) μ) (RV K) Q := by
  cases rp with
  | nil => exact h.elim
  | cons r1 r2 =>
    cases r2 with
    | nil =>
      cases r1 with
      | @ref i a ha =>
        have h : Post P w K W ρ H (match (seqAt μ i).bind g with | some a => .ok (k a) μ | none => .bad) (RV K) Q := h
        cases e : seqAt μ i with
        | none => rw [e] at h; exact h.elim
        | some qs =>
          rw [e, Option.bind_some] at h
          obtain ⟨vs, h1, h2⟩ := seqAt_of t ha e
          cases e2 : g qs with
          | none => rw [e2] at h; exact h.elim
          | some x =>
            rw [e2] at h
            exact ⟨a, vs, qs, x, rfl, h1, h2, e2, h⟩
      | _ => exact h.elim
    | cons _ _ => cases r1 <;> exact h.elim
theorem oc_any (hc : X.calm = true) : OC X W (.builtin "any") vAny := oc1_of fun pins s σ H xs us Q ρ μ ps I r rp t h => by
  obtain ⟨a, vs, qs, ns, rfl, h1, h2, h3, q⟩ := list1 rp t h
  have e := boolsL_of h2 h3
  exact cr_any hc pins s σ H _ us Q I r ⟨a, ns, rfl, e ▸ h1, q ρ _ H Step.refl (.bl _) t⟩
theorem oc_all (hc : X.calm = true) : OC X W (.builtin "all") vAll := oc1_of fun pins s σ H xs us Q ρ μ ps I r rp t h => by
  obtain ⟨a, vs, qs, ns, rfl, h1, h2, h3, q⟩ := list1 rp t h
  have e := boolsL_of h2 h3
  exact cr_all hc pins s σ H _ us Q I r ⟨a, ns, rfl, e ▸ h1, q ρ _ H Step.refl (.bl _) t⟩
theorem write_lst {P : Program} {w : World} {K : PySem.W.Frag} {ρ : List Addr} {H : Hp} {μ : Sto} {i : Nat} {a : Addr} {vs ws : List V} {qs : List PV} (t : RSt P w K ρ H μ) (ha : ρ[i]? = some a) (h : H a = some (.lst vs)) (r : RVs K ρ H qs ws) :
    Step K ρ H ρ (upd H a (.lst ws)) ∧ RSt P w K ρ (upd H a (.lst ws)) (μ.set i (.lst qs)) := by
  have hm : Mut (H a) := by rw [h]; trivial
  have st : Step K ρ H ρ (upd H a (.lst ws)) := Step.write (List.mem_of_getElem? ha) hm (DW.lst h)
  exact ⟨st, t.write ha hm (DW.lst h) ⟨ws, upd_same, r.step st⟩⟩
theorem om_extend : OM X W "list.extend" vExtend := om_of fun pins s σ H x xs v us Q ρ μ p ps I rx r r1 rp t h => by
  cases r1 with
  | @ref i a ha =>
    cases rp with
    | nil => exact h.elim
    | @cons y yv _ _ r2 r3 =>
      cases r3 with
      | nil =>
        cases r2 with
        | @ref j b hb =>
          have h : Post X.prog X.w X.K W ρ H (match isLst μ i, isLst μ j with
            | some ps, some qs => if ps.length + qs.length ≤ sizeLine then .ok .non (μ.set i (.lst (ps ++ qs))) else .bad
            | _, _ => .bad) (RV X.K) Q := h
          cases e : isLst μ i with
          | none => rw [e] at h; exact h.elim
          | some qs =>
            cases e2 : isLst μ j with
            | none => rw [e, e2] at h; exact h.elim
            | some qs2 =>
              rw [e, e2] at h
              obtain ⟨vs, h1, h2⟩ := isLst_of t ha e
              obtain ⟨ws, k1, k2⟩ := isLst_of t hb e2
              by_cases c : qs.length + qs2.length ≤ sizeLine
              · simp only [if_pos c] at h
                obtain ⟨st, s'⟩ := write_lst t ha h1 (h2.append k2)
                exact mt_extend pins s σ H _ _ v us Q I rx r ⟨a, b, vs, ws, rfl, rfl, h1, k1, by rw [← h2.length, ← k2.length]; exact c, h ρ _ _ st .non s'⟩
              · simp only [if_neg c] at h
                exact h.elim
        | _ => exact h.elim
      | cons _ _ => cases r2 <;> exact h.elim
  | _ => exact h.elim
end
end DL
namespace DL
open PySem PySem.Spec PyProof.Rows L2
/-- a key that is carried by value -/
def keyOf : PV → Option Key
  | .int i => some (.inl i)
  | .str x => some (.inr x)
  | _ => none
mutual
/-- a key of trees -/
def nkOf : PV → Option NestedKey
  | .non => some .none
  | .int i => some (.num i)
  | .str x => some (.text x)
  | .tup ps => match nksOf ps with
    | some ks => some (.tup ks)
    | none => none
  | .bl _ => none
  | .ref _ => none
  | .ty _ => none
  | .glb _ => none
  | .exc _ _ => none
def nksOf : List PV → Option (List NestedKey)
  | [] => some []
  | p :: ps => match nkOf p, nksOf ps with
    | some k, some ks => some (k :: ks)
    | _, _ => none
end
mutual
theorem nkOf_pv : ∀ {p : PV} {k : NestedKey}, nkOf p = some k → pvN k = p
  | .non, _, h => by cases h; rfl
  | .int i, _, h => by cases h; rfl
  | .str x, _, h => by cases h; rfl
  | .tup ps, k, h => by
    rw [nkOf] at h
    cases e : nksOf ps with
    | none => rw [e] at h; cases h
    | some ks =>
      rw [e] at h
      cases h
      rw [pvN, nksOf_pv e]
  | .bl _, _, h => by cases h
  | .ref _, _, h => by cases h
  | .ty _, _, h => by cases h
  | .glb _, _, h => by cases h
  | .exc _ _, _, h => by cases h
theorem nksOf_pv : ∀ {ps : List PV} {ks : List NestedKey}, nksOf ps = some ks → pvNs ks = ps
  | [], _, h => by cases h; rfl
  | p :: ps, ks, h => by
    rw [nksOf] at h
    cases e : nkOf p with
    | none => rw [e] at h; cases h
    | some k =>
      cases e2 : nksOf ps with
      | none => rw [e, e2] at h; cases h
      | some ks' =>
        rw [e, e2] at h
        cases h
        rw [pvNs, nkOf_pv e, nksOf_pv e2]
end
theorem keyOf_pv {p : PV} {k : Key} (h : keyOf p = some k) : pvK k = p := by
  cases p <;> first | (cases h; rfl) | cases h
theorem pvK_inj {a b : Key} (e : pvK a = pvK b) : a = b := by
  cases a with
  | inl i => cases b with
    | inl j => injection e with e; rw [e]
    | inr y => cases e
  | inr x => cases b with
    | inl j => cases e
    | inr y => injection e with e; rw [e]
mutual
theorem pvN_inj : ∀ {a b : NestedKey}, pvN a = pvN b → a = b
  | .none, b, e => by cases b <;> first | rfl | cases e
  | .num i, b, e => by cases b <;> first | (injection e with e; rw [e]) | cases e
  | .text i, b, e => by cases b <;> first | (injection e with e; rw [e]) | cases e
  | .tup ks, b, e => by
    cases b with
    | tup js => injection e with e; rw [pvNs_inj e]
    | _ => cases e
theorem pvNs_inj : ∀ {a b : List NestedKey}, pvNs a = pvNs b → a = b
  | [], b, e => by cases b <;> first | rfl | cases e
  | k :: ks, b, e => by
    cases b with
    | nil => cases e
    | cons j js => injection e with e1 e2; rw [pvN_inj e1, pvNs_inj e2]
end
def isTup : PV → Bool
  | .tup _ => true
  | _ => false
/-- what may be asked of a dict: a key of its kind -/
def keyIn (kvs : List (PV × PV)) (k : PV) : Bool := (match k with
  | .int _ => true
  | .str _ => true
  | .tup _ => match nkOf k with
    | some n => decide (n.depth ≤ 8)
    | none => false
  | _ => false) && (match kvs with
  | [] => true
  | q :: _ => isTup q.1 == isTup k)
def dget (kvs : List (PV × PV)) (k : PV) : Option PV := (kvs.find? fun kv => decide (kv.1 = k)).map (·.2)
def dput (kvs : List (PV × PV)) (k v : PV) : List (PV × PV) :=
  if (kvs.any fun kv => decide (kv.1 = k)) = true then kvs.map (fun kv => if kv.1 = k then (kv.1, v) else kv) else kvs ++ [(k, v)]
theorem length_dput (kvs : List (PV × PV)) (k v : PV) : (dput kvs k v).length ≤ kvs.length + 1 := by
  unfold dput
  split
  · rw [List.length_map]; omega
  · rw [List.length_append, List.length_cons, List.length_nil]; omega
/-- none and none, or two that belong to one another -/
def RelOp {α β : Type} (R : α → β → Prop) : Option α → Option β → Prop
  | some a, some b => R a b
  | none, none => True
  | _, _ => False
section
variable {κ : Type} [DecidableEq κ] {e : κ → PV} {R : PV → Value → Prop}
abbrev PrE {κ : Type} (e : κ → PV) (R : PV → Value → Prop) : List (PV × PV) → List (κ × Value) → Prop := Paired fun p q => p.1 = e q.1 ∧ R p.2 q.2
theorem pr_get (inj : ∀ {a b : κ}, e a = e b → a = b) {kvs : List (PV × PV)} {vs : List (κ × Value)} (r : PrE e R kvs vs) (k : κ) : RelOp R (dget kvs (e k)) (valueAt vs k) := by
  induction r with
  | nil => exact True.intro
  | @cons p q ps qs h t ih =>
    obtain ⟨h1, h2⟩ := h
    by_cases c : q.1 = k
    · have a : dget (p :: ps) (e k) = some p.2 := by
        have : p.1 = e k := by rw [h1, c]
        simp [dget, List.find?_cons, this]
      have b : valueAt (q :: qs) k = some q.2 := by simp [valueAt, List.find?_cons, c]
      rw [a, b]
      exact h2
    · have c' : ¬ p.1 = e k := fun z => c (inj (h1.symm.trans z))
      have a : dget (p :: ps) (e k) = dget ps (e k) := by simp [dget, List.find?_cons, c']
      have b : valueAt (q :: qs) k = valueAt qs k := by simp [valueAt, List.find?_cons, c]
      rw [a, b]
      exact ih
theorem pr_any (inj : ∀ {a b : κ}, e a = e b → a = b) {kvs : List (PV × PV)} {vs : List (κ × Value)} (r : PrE e R kvs vs) (k : κ) : (kvs.any fun kv => decide (kv.1 = e k)) = vs.any fun kv => decide (kv.1 = k) := by
  induction r with
  | nil => rfl
  | @cons p q ps qs h t ih =>
    rw [List.any_cons, List.any_cons, ih]
    congr 1
    by_cases c : q.1 = k
    · rw [decide_eq_true c, decide_eq_true (by rw [h.1, c])]
    · rw [decide_eq_false c, decide_eq_false fun z => c (inj (h.1.symm.trans z))]
theorem pr_put (inj : ∀ {a b : κ}, e a = e b → a = b) {kvs : List (PV × PV)} {vs : List (κ × Value)} (r : PrE e R kvs vs) (k : κ) {v : PV} {u : Value} (rv : R v u) : PrE e R (dput kvs (e k) v) (stored vs k u) := by
  unfold dput stored
  rw [pr_any inj r k]
  by_cases c : (vs.any fun kv => decide (kv.1 = k)) = true
  · rw [if_pos c, if_pos c]
    clear c
    induction r with
    | nil => exact .nil
    | @cons p q ps qs h t ih =>
      rw [List.map_cons, List.map_cons]
      refine .cons ?_ ih
      obtain ⟨h1, h2⟩ := h
      by_cases c : q.1 = k
      · rw [if_pos c, if_pos (by rw [h1, c])]
        exact ⟨h1, rv⟩
      · rw [if_neg c, if_neg fun z => c (inj (h1.symm.trans z))]
        exact ⟨h1, h2⟩
  · rw [if_neg c, if_neg c]
    exact Paired.snoc r ⟨rfl, rv⟩
end
section
variable (K : PySem.W.Frag) (ρ : List Addr) (H : Hp)
abbrev PrF : List (PV × PV) → List (Key × Value) → Prop := Paired fun p q => p.1 = pvK q.1 ∧ RVal K ρ H p.2 q.2
abbrev PrN : List (PV × PV) → List (NestedKey × Addr × Value) → Prop := Paired fun p q => p.1 = pvN q.1 ∧ q.1.depth ≤ 8 ∧ RV K ρ H p.1 (.ref q.2.1) ∧ RVal K ρ H p.2 q.2.2
end
section
variable {K : PySem.W.Frag} {ρ : List Addr} {H : Hp}
theorem prn_pairs {kvs : List (PV × PV)} {xs : List (NestedKey × Addr × Value)} (r : PrN K ρ H kvs xs) : PrE pvN (RVal K ρ H) kvs (pairsH xs) := by
  induction r with
  | nil => exact .nil
  | cons h t ih => exact .cons ⟨h.1, h.2.2.2⟩ ih
theorem prn_put {kvs : List (PV × PV)} {xs : List (NestedKey × Addr × Value)} (r : PrN K ρ H kvs xs) {k : NestedKey} (hk : k.depth ≤ 8) {b : Addr} (rk : RV K ρ H (pvN k) (.ref b)) {v : PV} {u : Value} (rv : RVal K ρ H v u) :
    PrN K ρ H (dput kvs (pvN k) v) (storedH xs k b u) := by
  unfold dput storedH
  have e : (kvs.any fun kv => decide (kv.1 = pvN k)) = (atKey xs k).isSome := by
    rw [pr_any (fun {a b} => pvN_inj) (prn_pairs r) k, any_pairsH]
  rw [e]
  clear e
  by_cases c : (atKey xs k).isSome = true
  · rw [if_pos c, if_pos c]
    clear c
    induction r with
    | nil => exact .nil
    | @cons p q ps qs h t ih =>
      rw [List.map_cons, List.map_cons]
      refine .cons ?_ ih
      obtain ⟨h1, h2, h3, h4⟩ := h
      unfold putAt
      by_cases c : q.1 = k
      · rw [if_pos c, if_pos (by rw [h1, c])]
        exact ⟨h1, h2, h3, rv⟩
      · rw [if_neg c, if_neg fun z => c (pvN_inj (h1.symm.trans z))]
        exact ⟨h1, h2, h3, h4⟩
  · rw [if_neg c, if_neg c]
    exact Paired.snoc r ⟨rfl, hk, rk, rv⟩
end
section
variable {X : Cx} {pins : List (Addr × Obj)} {σ : L2.St} {H : Hp} {s : Shared} {ρ : List Addr}
mutual
theorem nkey_is (I : Inv X pins σ H s) : ∀ {k : NestedKey} {v : V} {u : Value}, RV X.K ρ H (pvN k) v → RelV v u → NestedIs s.heap k u
  | .none, _, _, r, q => by cases r; cases q; exact .none
  | .num i, _, _, r, q => by
    cases r
    obtain ⟨t, e⟩ := q
    subst e
    exact .int i t
  | .text x, _, _, r, q => by
    cases r
    obtain ⟨t, e⟩ := q
    subst e
    exact .text x t
  | .tup ks, v, u, r, q => by
    rw [pvN] at r
    cases r with
    | tup h1 h2 =>
      cases q
      obtain ⟨its, rv, pl, _⟩ := I.tuple h1
      obtain ⟨o, ho, hc, n, hd⟩ := (show IsTup s.heap _ _ from pl)
      exact .tup ho hc hd (by simpa using nkeys_is I h2 rv)
theorem nkeys_is (I : Inv X pins σ H s) : ∀ {ks : List NestedKey} {vs : List V} {us : List Value}, RVs X.K ρ H (pvNs ks) vs → Vals vs us → NestedAll s.heap ks us
  | [], _, _, r, q => by cases r; cases q; exact .nil
  | k :: ks, _, _, r, q => by
    rw [pvNs] at r
    cases r with
    | cons r1 r2 =>
      cases q with
      | cons q1 q2 => exact .cons (nkey_is I r1 q1) (nkeys_is I r2 q2)
end
end
section
variable {X : Cx} {pins : List (Addr × Obj)} {σ : L2.St} {H : Hp} {s : Shared} {ρ : List Addr} {μ : Sto}
/-- the dict with its number, in the heap -/
structure DIs (X : Cx) (H : Hp) (s : Shared) (ρ : List Addr) (a : Addr) (kvs : List (PV × PV)) : Prop where
  mu : Mut (H a)
  sys : (a == sysModules) = false
  len : kvs.length ≤ sizeLine
  raw : ∃ es ep, s.heap.DictRaw a es ep
  kind : (∃ vs, s.heap.DictOf (mixKind X.prog X.w) a vs ∧ PrF X.K ρ H kvs vs) ∨ ∃ xs, s.heap.DictOfH (nestedKind X.prog X.w) a xs ∧ PrN X.K ρ H kvs xs
theorem prn_is (I : Inv X pins σ H s) : ∀ {kvs : List (PV × PV)} {xs : List (NestedKey × Addr × Value)}, PrN X.K ρ H kvs xs → ∀ x ∈ xs, (nestedKind X.prog X.w).is s.heap x.1 x.2.1
  | _, _, .nil, x, hx => by cases hx
  | _, _, .cons h t, x, hx => by
    rcases List.mem_cons.mp hx with e | hx
    · subst e
      exact ⟨nkey_is I (v := .ref _) (h.1 ▸ h.2.2.1) rfl, h.2.1⟩
    · exact prn_is I t x hx
theorem dis_of (I : Inv X pins σ H s) (t : RSt X.prog X.w X.K ρ H μ) {i : Nat} {a : Addr} {kvs : List (PV × PV)} (ha : ρ[i]? = some a) (e : μ[i]? = some (.dct kvs)) : DIs X H s ρ a kvs := by
  obtain ⟨o, h1, h2, ex, hl, es, ep, hd, h3⟩ := t.obj i a _ ha e
  have ho : s.heap.get? a = some o := (I.hok a _ h1).1
  refine ⟨by rw [h1]; trivial, h2, hl, ⟨es, ep, o, ho, ex, hd⟩, ?_⟩
  rcases h3 with ⟨vs, k1, k2, k3, k4⟩ | ⟨xs, k1, k2, k4⟩
  · exact .inl ⟨vs, ⟨o, es, ep, ho, ex, hd, k1, k2, k3⟩, k4⟩
  · exact .inr ⟨xs, ⟨o, es, ep, ho, ex, hd, k1, prn_is I k4, k2⟩, k4⟩
/-- with a key of its kind -/
def DKy (X : Cx) (H : Hp) (s : Shared) (ρ : List Addr) (a : Addr) (kvs : List (PV × PV)) (k : PV) (u : Value) : Prop :=
  (∃ vs k', pvK k' = k ∧ (mixKind X.prog X.w).is k' u = true ∧ s.heap.DictOf (mixKind X.prog X.w) a vs ∧ PrF X.K ρ H kvs vs) ∨
  ∃ xs n b, pvN n = k ∧ n.depth ≤ 8 ∧ u = .ref b ∧ RV X.K ρ H k (.ref b) ∧ (nestedKind X.prog X.w).is s.heap n b ∧ s.heap.DictOfH (nestedKind X.prog X.w) a xs ∧ PrN X.K ρ H kvs xs
theorem tup_of_ref {K : PySem.W.Frag} {n : NestedKey} {p : PV} {b : Addr} (e : p = pvN n) (r : RV K ρ H p (.ref b)) : isTup p = true := by
  subst e
  cases n with
  | none => rw [pvN] at r; cases r
  | num i => rw [pvN] at r; cases r
  | text x => rw [pvN] at r; cases r
  | tup ks => rfl
theorem not_tup {k : Key} : isTup (pvK k) = false := by cases k <;> rfl
theorem pairs_nil {P : Program} {w : World} {es : List DictEntry} (h : Pairs (mixKind P w) es []) : es = [] := by cases h; rfl
theorem flat_nil (d : DIs X H s ρ a []) : s.heap.DictOf (mixKind X.prog X.w) a [] := by
  rcases d.kind with ⟨vs, h1, h2⟩ | ⟨xs, h1, h2⟩
  · cases h2; exact h1
  · cases h2
    obtain ⟨o, es, ep, k1, k2, k3, k4, k5, k6⟩ := h1
    have : es = #[] := by
      cases es with
      | mk l =>
        have : l = [] := k4
        rw [this]
    subst this
    exact ⟨o, #[], ep, k1, k2, k3, (fun e he => by simp at he), .nil, List.nodup_nil⟩
theorem nest_nil (d : DIs X H s ρ a []) : s.heap.DictOfH (nestedKind X.prog X.w) a [] := by
  rcases d.kind with ⟨vs, h1, h2⟩ | ⟨xs, h1, h2⟩
  · cases h2
    obtain ⟨o, es, ep, k1, k2, k3, k4, k5, k6⟩ := h1
    exact ⟨o, es, ep, k1, k2, k3, pairs_nil k5, (fun x hx => by cases hx), List.nodup_nil⟩
  · cases h2; exact h1
theorem dis_key (I : Inv X pins σ H s) (d : DIs X H s ρ a kvs) {k : PV} {y : V} {u : Value} (hk : keyIn kvs k = true) (rk : RV X.K ρ H k y) (ry : RelV y u) : DKy X H s ρ a kvs k u := by
  unfold keyIn at hk
  rw [Bool.and_eq_true] at hk
  obtain ⟨hk1, hk2⟩ := hk
  have flat : ∀ k', pvK k' = k → y = kV k' → DKy X H s ρ a kvs k u := by
    intro k' e1 e2
    subst e2
    have hu : (mixKind X.prog X.w).is k' u = true := kV_is ry
    rcases d.kind with ⟨vs, h1, h2⟩ | ⟨xs, h1, h2⟩
    · exact .inl ⟨vs, k', e1, hu, h1, h2⟩
    · cases h2 with
      | nil => exact .inl ⟨[], k', e1, hu, flat_nil d, .nil⟩
      | cons h t =>
        have z : (isTup _ == isTup k) = true := hk2
        rw [tup_of_ref h.1 h.2.2.1, ← e1, not_tup] at z
        cases z
  cases k with
  | int i => cases rk; exact flat (.inl i) rfl rfl
  | str x => cases rk; exact flat (.inr x) rfl rfl
  | tup ps =>
    have hk1 : (match nkOf (.tup ps) with | some n => decide (n.depth ≤ 8) | none => false) = true := hk1
    cases e : nkOf (.tup ps) with
    | none => rw [e] at hk1; cases hk1
    | some n =>
      rw [e] at hk1
      have hd : n.depth ≤ 8 := of_decide_eq_true hk1
      have en := nkOf_pv e
      cases rk with
      | @tup _ vs b h1 h2 =>
        obtain rfl : u = Value.ref b := ry
        have rk' : RV X.K ρ H (.tup ps) (.ref b) := .tup h1 h2
        have is : (nestedKind X.prog X.w).is s.heap n b := ⟨nkey_is I (v := .ref b) (by rw [en]; exact rk') rfl, hd⟩
        rcases d.kind with ⟨vs, h1, h2⟩ | ⟨xs, h1, h2⟩
        · cases h2 with
          | nil => exact .inr ⟨[], n, b, en, hd, rfl, rk', is, nest_nil d, .nil⟩
          | cons h t =>
            have z : (isTup _ == isTup (PV.tup ps)) = true := hk2
            rw [h.1, not_tup] at z
            cases z
        · exact .inr ⟨xs, n, b, en, hd, rfl, rk', is, h1, h2⟩
  | _ => cases hk1
/-- what it holds there -/
theorem relop_some {α β : Type} {R : α → β → Prop} {a : α} {o : Option β} (h : RelOp R (some a) o) : ∃ b, o = some b ∧ R a b := by
  cases o with
  | none => exact h.elim
  | some b => exact ⟨b, rfl, h⟩
variable {A : Around} {E : Value → Shared → Prop} {a : Addr} {kvs : List (PV × PV)} {k : PV} {u : Value}
theorem dd_getItem {Q : Value → Shared → Prop} {v : PV} (hu : A.units + 9 < cLine) (I : Inv X pins σ H s) (d : DKy X H s ρ a kvs k u) (g : dget kvs k = some v) (h : ∀ x w' s', Inv X pins σ H s' → RV X.K ρ H v x → RelV x w' → Q w' s') :
    wpAny (model X.prog X.w) A (getItem (.ref a) u) Q E s := by
  rcases d with ⟨vs, k', e1, e2, e3, e4⟩ | ⟨xs, n, b, e1, e2, rfl, e3, e4, e5, e6⟩
  · subst e1
    have r := pr_get (fun {a b} => pvK_inj) e4 k'
    rw [g] at r
    obtain ⟨w', hw, x, r1, r2⟩ := relop_some r
    exact wpAny_getItem_of e2 e3.mapOf hw (h x w' _ (I.tok _) r2 r1)
  · subst e1
    have r := pr_get (fun {a b} => pvN_inj) (prn_pairs e6) n
    rw [g, valueAt_pairsH] at r
    obtain ⟨w', hw, x, r1, r2⟩ := relop_some r
    obtain ⟨p, hp, hp2⟩ := Option.map_eq_some_iff.mp hw
    refine wpAny_getItem_heap (show A.in1.units + 8 < cLine from by show A.units + 1 + 8 < cLine; omega) e4 e5 hp ?_
    rw [hp2]
    exact h x w' _ (I.tok _) r2 r1
/-- the object at d is a dict still, of as many entries, at the same count of changes -/
def EpSame (d : Addr) (h h' : Heap) : Prop := ∀ o es ep, h.get? d = some o → o.data = .dict es ep → ∃ o' es', h'.get? d = some o' ∧ o'.data = .dict es' ep ∧ es'.size = es.size
end
section
open Sem (wp)
variable {prog : Program} {w : World} {κ : Type} [DecidableEq κ] {A : Around} {E : Value → Shared → Prop} {s : Shared} {d a : Addr} {k : κ}
theorem epSame_upd {h : Heap} {o : Obj} {es : Array DictEntry} {ep : Nat} {f : Array DictEntry → Array DictEntry} (ho : h.get? d = some o) (hd : o.data = .dict es ep) (hs : (f es).size = es.size) : EpSame d h (h.update d (Obj.mapDict f)) := by
  intro o1 es1 ep1 h1 h2
  rw [ho] at h1
  cases h1
  rw [hd] at h2
  cases h2
  exact ⟨_, _, Heap.get?_update_self _ ho (Obj.isFreed_of_dict (Obj.data_mapDict hd _)), Obj.data_mapDict hd _, hs⟩
theorem flat_old {knd : KeyKind prog w κ} {key v : Value} {kvs : List (κ × Value)} {Q : Unit → Shared → Prop} (hkey : knd.is k key = true) (hm : s.heap.DictOf knd d kvs) (hin : (kvs.any fun kv => decide (kv.1 = k)) = true)
    (hQ : ∀ h', h'.DictOf knd d (stored kvs k v) → Heap.SameBut d s.heap h' → EpSame d s.heap h' → Q () { s with heap := h', toks := s.toks + 1 }) : wpAny (model prog w) A (dictSet d key v) Q E s := by
  obtain ⟨o, es, ep, ho, hc, hdt, hk, hp, hnd⟩ := hm
  unfold dictSet
  try (with_reducible refine wpAny_holding ?_)
  refine wpAny_bind (knd.pyHash hkey (?_ : wpAny _ _ _ _ _ _))
  unfold dictSetHashed
  try (with_reducible refine wpAny_holding ?_)
  refine wpAny_bind (wpAny_dictFind_of (s := { s with toks := s.toks + 1 }) hkey ho hdt hk ?_)
  have hix : (es.findIdx? fun e => knd.is k e.key) = kvs.findIdx? fun kv => decide (kv.1 = k) := by
    have := hp.findIdx k
    obtain ⟨l⟩ := es
    simpa using this
  cases hi : es.findIdx? fun e => knd.is k e.key with
  | some i =>
    refine wpAny_bind (wpAny_rule (wpAny_bind (wpAny_updateDict (s := { s with toks := s.toks + 1 }) ho hdt (wpAny_point (hQ _ ⟨_, _, ep, Heap.get?_update_self _ ho (Obj.isFreed_of_dict (Obj.data_mapDict hdt _)), hc.mapDict _, Obj.data_mapDict hdt _, hk.modify _ _, ?_, ?_⟩ (Heap.SameBut.update ..) (epSame_upd ho hdt (by simp)))))))
    · have hl : (es.toList.findIdx? fun e => knd.is k e.key) = some i := by
        obtain ⟨l⟩ := es
        simpa using hi
      have q := hp.modify hnd hl v
      rw [stored, if_pos hin]
      obtain ⟨l⟩ := es
      simpa using q
    · rw [stored, if_pos hin, keys_map_store]
      exact hnd
  | none =>
    exfalso
    rw [hi] at hix
    have hnot := not_mem_of_findIdx_none hix.symm
    obtain ⟨kv, h1, h2⟩ := List.any_eq_true.mp hin
    exact hnot (List.mem_map.mpr ⟨kv, h1, of_decide_eq_true h2⟩)
theorem nest_old {knd : HeapKind prog w κ} {v : Value} {xs : List (κ × Addr × Value)} {Q : Unit → Shared → Prop} (hu : knd.room A) (hkey : knd.is s.heap k a) (hm : s.heap.DictOfH knd d xs) (hin : (atKey xs k).isSome = true)
    (hQ : ∀ h', h'.DictOfH knd d (storedH xs k a v) → Heap.SameBut d s.heap h' → EpSame d s.heap h' → Q () { s with heap := h', toks := s.toks + knd.draws k }) : wpAny (model prog w) A (dictSet d (.ref a) v) Q E s := by
  obtain ⟨o, es, ep, ho, hc, hdt, he, his, hnd⟩ := hm
  unfold dictSet
  try (with_reducible refine wpAny_holding ?_)
  refine wpAny_bind (knd.pyHash hu hkey (?_ : wpAny _ _ _ _ _ _))
  unfold dictSetHashed
  try (with_reducible refine wpAny_holding ?_)
  refine wpAny_bind (wpAny_dictFind_heap (s := { s with toks := s.toks + knd.draws k }) hu hkey ho hdt he his hnd (fun hno => ?_) (fun j p hj => ?_))
  · rw [atKey_none_of_get hno] at hin
    cases hin
  · refine wpAny_bind (wpAny_rule (wpAny_bind (wpAny_updateDict (s := { s with toks := s.toks + knd.draws k }) ho hdt (wpAny_point (hQ _ ⟨_, _, ep, Heap.get?_update_self _ ho (Obj.isFreed_of_dict (Obj.data_mapDict hdt _)), hc.mapDict _, Obj.data_mapDict hdt _, ?_, ?_, ?_⟩ (Heap.SameBut.update ..) (epSame_upd ho hdt (by simp)))))))
    · rw [storedH_old (atKey_of_get hnd hj)]
      have q := modify_map_putAt (entryOfKey knd) (fun e : DictEntry => { e with val := v }) k v (fun _ _ => rfl) hnd hj
      rw [← he] at q
      obtain ⟨l⟩ := es
      simpa using q
    · rw [storedH_old (atKey_of_get hnd hj)]
      intro x hx
      obtain ⟨y, hy, rfl⟩ := List.mem_map.mp hx
      have q : (putAt k v y).1 = y.1 ∧ (putAt k v y).2.1 = y.2.1 := by
        unfold putAt
        split <;> exact ⟨rfl, rfl⟩
      rw [q.1, q.2]
      exact knd.keeps (his y hy) ho hdt (Heap.SameBut.update ..)
    · rw [storedH_old (atKey_of_get hnd hj), List.map_map]
      have q : ((fun x : κ × Addr × Value => x.1) ∘ putAt k v) = fun x => x.1 := by
        funext y
        show (putAt k v y).1 = y.1
        unfold putAt
        split <;> rfl
      rw [q]
      exact hnd
theorem setItem_by {key v : Value} {Q : Unit → Shared → Prop} (hT : s.TypeIs (.ref d) "dict") (h : wpAny (model prog w) A.in1 (dictSet d key v) Q E s) : wpAny (model prog w) A (setItem (.ref d) key v) Q E s := by
  unfold setItem
  try (with_reducible refine wpAny_holding ?_)
  refine wpAny_bind (wpAny_sequenceKey hT (by decide) (?_ : wpAny _ _ _ _ _ _))
  refine wpAny_bind (wpAny_callSpecial?_slot (name := Str.ofString "__setitem__") hT slot_dict_setitem (wpAny_call_entry slot_dict_setitem hT entry_dict_setitem ?_ (args_dict_setitem _ _ _)))
  show wpAny _ _ (Builtin.Dict.notOrdered "__setitem__" ⟨[Value.ref d, key, v], []⟩ >>= _) _ _ s
  refine wpAny_bind (wpAny_notOrdered_dict hT (?_ : wpAny _ _ _ _ _ _))
  show wpAny _ A.in1 (dictSet d key v >>= _) _ _ s
  exact wpAny_bind (wpAny_mono h (fun _ s' q => wpAny_pure ⟨.none, rfl, wpAny_pure q⟩) fun _ _ e => e)
end
section
variable {X : Cx} {pins : List (Addr × Obj)} {σ : L2.St} {H : Hp} {s : Shared} {ρ : List Addr} {μ : Sto} {A : Around} {E : Value → Shared → Prop} {a : Addr} {kvs : List (PV × PV)} {k : PV} {u : Value}
theorem dd_write {h' : Heap} {t' : Nat} {o : Obj} (I : Inv X pins σ H s) (mu : Mut (H a)) (hs : Heap.SameBut a s.heap h') (he : h'.get? a = some o) : Inv X pins σ (upd H a (dO a o)) { s with heap := h', toks := t' } :=
  I.write (x := a) (e := a) mu (.inl rfl) (fun b q hb z => (hs.2 b hb).trans z) ⟨o, he⟩ ⟨he, ⟨o, he⟩, fun h1 h2 z k => k _ z⟩
theorem dw_of {h' : Heap} {o : Obj} {es : Array DictEntry} {ep : Nat} (I : Inv X pins σ H s) (he : h'.get? a = some o) (hd : o.data = .dict es ep)
    (h : (∀ o0 es0 ep0, s.heap.get? a = some o0 → o0.data = .dict es0 ep0 → es0.size < es.size) ∨ EpSame a s.heap h') : DW H a (dO a o) := by
  intro o0 es0 ep0 e1 e2
  have e3 : s.heap.get? a = some o0 := (I.hok a _ e1).1
  rcases h with h | h
  · have := h o0 es0 ep0 e3 e2
    exact ⟨o, es, ep, rfl, hd, by omega, fun z => by omega⟩
  · obtain ⟨o', es', h1, h2, h3⟩ := h o0 es0 ep0 e3 e2
    rw [he] at h1
    cases h1
    rw [hd] at h2
    cases h2
    exact ⟨o, es, _, rfl, hd, by omega, fun _ => rfl⟩
theorem dd_store {h' : Heap} (I : Inv X pins σ H s) (mu : Mut (H a)) (sys : (a == sysModules) = false) {i : Nat} (ha : ρ[i]? = some a) (t : RSt X.prog X.w X.K ρ H μ) {kvs' : List (PV × PV)} (hl : kvs'.length ≤ sizeLine)
    (hg : (∀ o0 es0 ep0, s.heap.get? a = some o0 → o0.data = .dict es0 ep0 → es0.size < kvs'.length) ∨ EpSame a s.heap h')
    (d : (∃ vs, h'.DictOf (mixKind X.prog X.w) a vs ∧ PrF X.K ρ H kvs' vs) ∨ ∃ xs, h'.DictOfH (nestedKind X.prog X.w) a xs ∧ PrN X.K ρ H kvs' xs) :
    ∃ o, h'.get? a = some o ∧ Step X.K ρ H ρ (upd H a (dO a o)) ∧ RSt X.prog X.w X.K ρ (upd H a (dO a o)) (μ.set i (.dct kvs')) := by
  rcases d with ⟨vs, ⟨o, es, ep, h1, h2, h3, h4, h5, h6⟩, r⟩ | ⟨xs, ⟨o, es, ep, h1, h2, h3, h4, h5, h6⟩, r⟩
  · have hz : es.size = kvs'.length := by rw [Paired.length r, ← h5.length]; exact Array.length_toList.symm
    have dw : DW H a (dO a o) := dw_of I h1 h3 (by rw [hz]; exact hg)
    have st : Step X.K ρ H ρ (upd H a (dO a o)) := Step.write (List.mem_of_getElem? ha) mu dw
    refine ⟨o, h1, st, t.write ha mu dw ⟨o, upd_same, sys, h2, hl, es, ep, h3, .inl ⟨vs, h4, h5, h6, Paired.mapP r fun p q h => ⟨h.1, h.2.step st.grow⟩⟩⟩⟩
  · have hz : es.size = kvs'.length := by rw [Paired.length r]; exact size_of_entries h4
    have dw : DW H a (dO a o) := dw_of I h1 h3 (by rw [hz]; exact hg)
    have st : Step X.K ρ H ρ (upd H a (dO a o)) := Step.write (List.mem_of_getElem? ha) mu dw
    refine ⟨o, h1, st, t.write ha mu dw ⟨o, upd_same, sys, h2, hl, es, ep, h3, .inr ⟨xs, h4, h6, Paired.mapP r fun p q h => ⟨h.1, h.2.1, h.2.2.1.step st, h.2.2.2.step st.grow⟩⟩⟩⟩
/-- a key that is not there: the dict grows -/
theorem any_get (kvs : List (PV × PV)) (k : PV) : (kvs.any fun kv => decide (kv.1 = k)) = (dget kvs k).isSome := by
  unfold dget
  rw [Option.isSome_map]
  induction kvs with
  | nil => rfl
  | cons q r ih =>
    rw [List.any_cons, List.find?_cons]
    cases c : decide (q.1 = k) with
    | true => rfl
    | false => rw [Bool.false_or]; exact ih
theorem dput_new {kvs : List (PV × PV)} {k v : PV} (h : dget kvs k = none) : (dput kvs k v).length = kvs.length + 1 := by
  unfold dput
  rw [any_get, h]
  simp
theorem raw_len (D : DIs X H s ρ a kvs) {o0 : Obj} {es0 : Array DictEntry} {ep0 : Nat} (h1 : s.heap.get? a = some o0) (h2 : o0.data = .dict es0 ep0) : es0.size = kvs.length := by
  rcases D.kind with ⟨vs, ⟨o, es, ep, k1, k2, k3, k4, k5, k6⟩, r⟩ | ⟨xs, ⟨o, es, ep, k1, k2, k3, k4, k5, k6⟩, r⟩
  · rw [k1] at h1
    cases h1
    rw [k3] at h2
    cases h2
    rw [Paired.length r, ← k5.length]
    exact Array.length_toList.symm
  · rw [k1] at h1
    cases h1
    rw [k3] at h2
    cases h2
    rw [Paired.length r]
    exact size_of_entries k4
theorem dd_setItem {Q : Unit → Shared → Prop} {vp : PV} {vx : V} {vu : Value} {i : Nat} (hu : A.units + 9 < cLine) (I : Inv X pins σ H s) (t : RSt X.prog X.w X.K ρ H μ) (ha : ρ[i]? = some a) (D : DIs X H s ρ a kvs) (d : DKy X H s ρ a kvs k u) (rv : RV X.K ρ H vp vx) (rv2 : RelV vx vu)
    (hl : kvs.length < sizeLine) (h : ∀ H' s', Step X.K ρ H ρ H' → RSt X.prog X.w X.K ρ H' (μ.set i (.dct (dput kvs k vp))) → Inv X pins σ H' s' → Q () s') :
    wpAny (model X.prog X.w) A (setItem (.ref a) u vu) Q E s := by
  have hlen := length_dput kvs k vp
  rcases d with ⟨vs, k', e1, e2, e3, e4⟩ | ⟨xs, n, b, e1, e2, rfl, e3, e4, e5, e6⟩
  · subst e1
    have hz : vs.length ≤ sizeLine := by rw [← Paired.length e4]; exact D.len
    cases c : dget kvs (pvK k') with
    | none =>
      refine wpAny_setItem_pairs (hsz := hz) e2 e3 fun h' dd' hs => ?_
      obtain ⟨o, h1, st, t'⟩ := dd_store I D.mu D.sys ha t (kvs' := dput kvs (pvK k') vp) (by omega) (.inl fun o0 es0 ep0 q1 q2 => by rw [raw_len D q1 q2, dput_new c]; omega) (.inl ⟨_, dd', pr_put (fun {a b} => pvK_inj) e4 k' ⟨vx, rv2, rv⟩⟩)
      exact h _ _ st t' (dd_write I D.mu hs h1)
    | some p0 =>
      refine setItem_by e3.typeIs (flat_old e2 e3 (by rw [← pr_any (fun {a b} => pvK_inj) e4 k', any_get, c]; rfl) fun h' dd' hs ep => ?_)
      obtain ⟨o, h1, st, t'⟩ := dd_store I D.mu D.sys ha t (kvs' := dput kvs (pvK k') vp) (by omega) (.inr ep) (.inl ⟨_, dd', pr_put (fun {a b} => pvK_inj) e4 k' ⟨vx, rv2, rv⟩⟩)
      exact h _ _ st t' (dd_write I D.mu hs h1)
  · subst e1
    have hz : xs.length ≤ sizeLine := by rw [← Paired.length e6]; exact D.len
    have hr : A.in1.units + 8 < cLine := by show A.units + 1 + 8 < cLine; omega
    cases c : dget kvs (pvN n) with
    | none =>
      refine wpAny_setItem_heap (hsz := hz) hr e4 e5 fun h' dd' hs => ?_
      obtain ⟨o, h1, st, t'⟩ := dd_store I D.mu D.sys ha t (kvs' := dput kvs (pvN n) vp) (by omega) (.inl fun o0 es0 ep0 q1 q2 => by rw [raw_len D q1 q2, dput_new c]; omega) (.inr ⟨_, dd', prn_put e6 e2 e3 ⟨vx, rv2, rv⟩⟩)
      exact h _ _ st t' (dd_write I D.mu hs h1)
    | some p0 =>
      refine setItem_by e5.typeIs (nest_old hr e4 e5 (by rw [← any_pairsH, ← pr_any (fun {a b} => pvN_inj) (prn_pairs e6) n, any_get, c]; rfl) fun h' dd' hs ep => ?_)
      obtain ⟨o, h1, st, t'⟩ := dd_store I D.mu D.sys ha t (kvs' := dput kvs (pvN n) vp) (by omega) (.inr ep) (.inr ⟨_, dd', prn_put e6 e2 e3 ⟨vx, rv2, rv⟩⟩)
      exact h _ _ st t' (dd_write I D.mu hs h1)
end
end DL
namespace DL
open PySem PySem.Spec PyProof.Rows L2
def dctAt (μ : Sto) (i : Nat) : Option (List (PV × PV)) := match μ[i]? with
  | some (.dct kvs) => some kvs
  | _ => none
theorem dctAt_get {μ : Sto} {i : Nat} {kvs : List (PV × PV)} (h : dctAt μ i = some kvs) : μ[i]? = some (.dct kvs) := by
  unfold dctAt at h
  split at h
  · cases h; assumption
  · cases h
/-- a[k] of a tuple, a list, a text, a dict -/
def vIx : VF := fun xs μ => match xs with
  | [.ref i, k] => match dctAt μ i with
    | some kvs => if keyIn kvs k = true then match dget kvs k with
        | some v => .ok v μ
        | none => .bad
      else .bad
    | none => vItem [.ref i, k] μ
  | [.tup ps, k] => vItem [.tup ps, k] μ
  | [.str z, k] => vItem [.str z, k] μ
  | _ => .bad
/-- p in c -/
def isIn (μ : Sto) (p c : PV) : Option Bool := match c with
  | .ref i => match dctAt μ i with
    | some kvs => if keyIn kvs p = true then some (dget kvs p).isSome else none
    | none => inSeq μ p c
  | _ => inSeq μ p c
def lenOf (μ : Sto) (p : PV) : Option Nat := match p with
  | .tup ps => some ps.length
  | .str z => if z.length ≤ sizeLine then some z.length else none
  | .ref i => match dctAt μ i with
    | some kvs => some kvs.length
    | none => (seqAt μ i).map (·.length)
  | _ => none
def vLen : VF := fun xs μ => match xs with
  | [p] => match lenOf μ p with
    | some n => .ok (.int n) μ
    | none => .bad
  | _ => .bad
/-- == and != where one side is a dict: the other is {} -/
def dEmp (μ : Sto) (p q : PV) : Option Bool := match p, q with
  | .ref i, .ref j => match dctAt μ i, dctAt μ j with
    | some kvs, some [] => some kvs.isEmpty
    | _, _ => none
  | _, _ => none
def vEqA : VF := fun xs μ => match xs with
  | [p, q] => match dEmp μ p q with
    | some b => .ok (.bl b) μ
    | none => vEq [p, q] μ
  | _ => .bad
def vNeA : VF := fun xs μ => match xs with
  | [p, q] => match dEmp μ p q with
    | some b => .ok (.bl (!b)) μ
    | none => vNe [p, q] μ
  | _ => .bad
section
variable {prog : Program} {w : World} {A : Around} {E : Value → Shared → Prop} {s : Shared}
theorem raw_samePairs {nm : String} {a b : Addr} {es es' : Array DictEntry} {ep ep' : Nat} {Q : Bool → Shared → Prop} (ha : (a == sysModules) = false) (hb : (b == sysModules) = false)
    (da : s.heap.DictRaw a es ep) (db : s.heap.DictRaw b es' ep') (hsz : ¬ es.size = es'.size) (h : Q false s) : wpAny (model prog w) A (Builtin.Dict.samePairs nm a b) Q E s := by
  obtain ⟨oa, hoa, _, hda⟩ := da
  obtain ⟨ob, hob, _, hdb⟩ := db
  unfold Builtin.Dict.samePairs Builtin.Dict.showsAll
  rw [if_neg (show ¬ (a == sysModules) = true by rw [ha]; exact Bool.false_ne_true), if_neg (show ¬ (b == sysModules) = true by rw [hb]; exact Bool.false_ne_true)]
  refine wpAny_bind (wpAny_pure (wpAny_bind (wpAny_pure ?_)))
  refine wpAny_bind (wpAny_dictEntries hoa hda ?_)
  dsimp only
  refine wpAny_bind (wpAny_dictEntries hob hdb ?_)
  rw [if_pos (by simpa using hsz)]
  exact wpAny_bind (wpAny_rule (wpAny_pure h))
theorem raw_eq {a b : Addr} {es es' : Array DictEntry} {ep ep' : Nat} {Q : Value → Shared → Prop} (ha : (a == sysModules) = false) (hb : (b == sysModules) = false)
    (da : s.heap.DictRaw a es ep) (db : s.heap.DictRaw b es' ep') (hsz : ¬ es.size = es'.size) (hu : A.units < cLine) (h : Q (.bool false) s) : wpAny (model prog w) A (compareOp .Eq (.ref a) (.ref b)) Q E s := by
  refine wpAny_richCompare_same_room (op := .Eq) da.typeIs db.typeIs PySem.F.slot_dict_eq (wpAny_call_entry PySem.F.slot_dict_eq da.typeIs PySem.F.entry_dict_eq ?_ (PySem.F.args_dict_eq_2 _ _)) hu
  show wpAny _ _ (Builtin.Dict.dictSlotArgs "__eq__" ⟨[.ref a, .ref b], []⟩ >>= _) _ _ s
  refine wpAny_bind ?_
  unfold Builtin.Dict.dictSlotArgs
  refine wpAny_bind (wpAny_notOrdered_dict da.typeIs ?_)
  show wpAny _ _ (pure (Value.ref a, Value.ref b)) _ _ s
  refine wpAny_pure ?_
  refine wpAny_bind (wpAny_isInstance (T := "dict") db.typeIs PySem.F.sub_dict_dict ?_)
  simp only [Bool.not_true, Bool.false_eq_true, if_false]
  refine wpAny_bind (wpAny_pure (wpAny_bind (wpAny_pure ?_)))
  refine wpAny_bind (raw_samePairs ha hb da db hsz ?_)
  refine wpAny_pure ⟨_, rfl, ?_, ?_⟩
  · exact fun x => nomatch x
  · simpa using h
theorem raw_ne {a b : Addr} {es es' : Array DictEntry} {ep ep' : Nat} {Q : Value → Shared → Prop} (ha : (a == sysModules) = false) (hb : (b == sysModules) = false)
    (da : s.heap.DictRaw a es ep) (db : s.heap.DictRaw b es' ep') (hsz : ¬ es.size = es'.size) (hu : A.units < cLine) (h : Q (.bool true) s) : wpAny (model prog w) A (compareOp .NotEq (.ref a) (.ref b)) Q E s := by
  refine wpAny_richCompare_same_room (op := .NotEq) da.typeIs db.typeIs PySem.F.slot_dict_ne (wpAny_call_entry PySem.F.slot_dict_ne da.typeIs PySem.F.entry_dict_ne ?_ (PySem.F.args_dict_ne_2 _ _)) hu
  show wpAny _ _ (Builtin.Dict.dictSlotArgs "__ne__" ⟨[.ref a, .ref b], []⟩ >>= _) _ _ s
  refine wpAny_bind ?_
  unfold Builtin.Dict.dictSlotArgs
  refine wpAny_bind (wpAny_notOrdered_dict da.typeIs ?_)
  show wpAny _ _ (pure (Value.ref a, Value.ref b)) _ _ s
  refine wpAny_pure ?_
  refine wpAny_bind (wpAny_isInstance (T := "dict") db.typeIs PySem.F.sub_dict_dict ?_)
  simp only [Bool.not_true, Bool.false_eq_true, if_false]
  refine wpAny_bind (wpAny_pure (wpAny_bind (wpAny_pure ?_)))
  refine wpAny_bind (raw_samePairs ha hb da db hsz ?_)
  refine wpAny_pure ⟨_, rfl, ?_, ?_⟩
  · exact fun x => nomatch x
  · simpa using h
end
section
variable {X : Cx} {pins : List (Addr × Obj)} {σ : L2.St} {H : Hp} {s : Shared} {ρ : List Addr} {μ : Sto} {a b : Addr} {kvs : List (PV × PV)}
/-- the raw entries, as many as the pairs -/
theorem DIs.size (d : DIs X H s ρ a kvs) : ∃ es ep, s.heap.DictRaw a es ep ∧ es.size = kvs.length := by
  rcases d.kind with ⟨vs, h1, h2⟩ | ⟨xs, h1, h2⟩
  · obtain ⟨es, ep, k1, k2, _⟩ := h1.raw
    exact ⟨es, ep, k1, by rw [k2, Paired.length h2]⟩
  · obtain ⟨es, ep, k1, k2, _⟩ := h1.raw
    exact ⟨es, ep, k1, by rw [k2, Paired.length h2]⟩
theorem DIs.typeIs (d : DIs X H s ρ a kvs) : s.TypeIs (.ref a) "dict" := let ⟨_, _, h⟩ := d.raw; h.typeIs
end
section
variable {X : Cx} {W : EW}
theorem vIx_item {p k : PV} {μ : Sto} {P : Program} {w : World} {K : PySem.W.Frag} {ρ : List Addr} {H : Hp} {Q : VK} (hn : ∀ i, p = .ref i → dctAt μ i = none) (h : Post P w K W ρ H (vIx [p, k] μ) (RV K) Q) : Post P w K W ρ H (vItem [p, k] μ) (RV K) Q := by
  cases p with
  | ref i =>
    have h : Post P w K W ρ H (match dctAt μ i with
      | some kvs => if keyIn kvs k = true then match dget kvs k with
          | some v => .ok v μ
          | none => .bad
        else .bad
      | none => vItem [.ref i, k] μ) (RV K) Q := h
    rw [hn i rfl] at h
    exact h
  | tup ps => exact h
  | str z => exact h
  | _ => exact h.elim
theorem oi_ix (hu : X.A.units + 9 < cLine) : OI X W vIx := by
  intro value slice pins s σ H x y v u Q I rx ry h hs
  obtain ⟨ρ, μ, ps, r, t, q⟩ := h
  cases r with
  | @cons p _ _ _ r1 r' =>
    cases r' with
    | @cons k _ _ _ r2 r'' =>
      cases r''
      by_cases hn : ∀ i, p = .ref i → dctAt μ i = none
      · exact oi_item (W := W) value slice pins s σ H x y v u Q I rx ry ⟨ρ, μ, [p, k], .cons r1 (.cons r2 .nil), t, vIx_item hn q⟩ hs
      · cases r1 with
        | @ref i a ha =>
          cases e : dctAt μ i with
          | none => exact absurd (fun j (z : PV.ref i = .ref j) => by cases z; exact e) hn
          | some kvs =>
            have q : Post X.prog X.w X.K W ρ H (match dctAt μ i with
              | some kvs => if keyIn kvs k = true then match dget kvs k with
                  | some v => .ok v μ
                  | none => .bad
                else .bad
              | none => vItem [.ref i, k] μ) (RV X.K) Q := q
            rw [e] at q
            by_cases c : keyIn kvs k = true
            · simp only [if_pos c] at q
              cases e2 : dget kvs k with
              | none => rw [e2] at q; exact q.elim
              | some vp =>
                rw [e2] at q
                obtain rfl : v = Value.ref a := rx
                have D := dis_of I t ha (dctAt_get e)
                have d := dis_key I D c r2 ry
                unfold subscriptTail
                refine wpAny_bind ?_
                rw [getitemInPython_of_ne D.typeIs.not_modules]
                refine wpAny_bind (wpAny_specialOf D.typeIs PySem.F.slot_dict_getitem.lookup ?_)
                have fin : wpAny (model X.prog X.w) X.A (subscripted slice false (.ref a) u) (fun r s₃ => wpAny (model X.prog X.w) X.A (letTemporaryGo value (.ref a) r >>= fun _ => pure r) (EP X pins σ Q) X.xe s₃) X.xe s := by
                  rw [hs]
                  refine wpAny_operating (dd_getItem hu I d e2 fun x' w' s' I' r3 r4 => wpAny_bind (wpAny_letTemporaryGo (wpAny_pure ⟨x', H, I', r4, q ρ x' H Step.refl r3 t⟩)))
                first
                  | exact wpAny_pure (wpAny_bind fin)
                  | exact wpAny_bind (wpAny_pure (wpAny_bind fin))
                  | exact wpAny_bind fin
            · simp only [if_neg c] at q
              exact q.elim
        | _ => exact absurd (fun j z => by cases z) hn
theorem dEmp_of {pins : List (Addr × Obj)} {σ : L2.St} {H : Hp} {s : Shared} {ρ : List Addr} {μ : Sto} {p q : PV} {x y : V} {v u : Value} {b : Bool} (hu : X.A.units < cLine) (I : Inv X pins σ H s) (rx : RelV x v) (ry : RelV y u)
    (r1 : RV X.K ρ H p x) (r2 : RV X.K ρ H q y) (t : RSt X.prog X.w X.K ρ H μ) (h : dEmp μ p q = some b) :
    (∀ (E : Value → Shared → Prop) (Q : Value → Shared → Prop), Q (.bool b) s → wpAny (model X.prog X.w) X.A (compareOp .Eq v u) Q E s) ∧
    (∀ (E : Value → Shared → Prop) (Q : Value → Shared → Prop), Q (.bool (!b)) s → wpAny (model X.prog X.w) X.A (compareOp .NotEq v u) Q E s) := by
  unfold dEmp at h
  cases r1 with
  | @ref i a ha =>
    cases r2 with
    | @ref j b' hb =>
      dsimp only at h
      cases e1 : dctAt μ i with
      | none => rw [e1] at h; cases h
      | some kvs =>
        cases e2 : dctAt μ j with
        | none => rw [e1, e2] at h; cases h
        | some js =>
          rw [e1, e2] at h
          cases js with
          | cons _ _ => cases h
          | nil =>
            simp only [Option.some.injEq] at h
            obtain rfl : v = Value.ref a := rx
            obtain rfl : u = Value.ref b' := ry
            have D1 := dis_of I t ha (dctAt_get e1)
            have D2 := dis_of I t hb (dctAt_get e2)
            cases kvs with
            | nil =>
              subst h
              exact ⟨fun E Q hq => PySem.W.keq_eq (knd := mixKind X.prog X.w) (r := true) D1.sys D2.sys (flat_nil D1) (flat_nil D2) hu (fun _ => .nil) hq,
                fun E Q hq => PySem.W.keq_ne (knd := mixKind X.prog X.w) (r := true) D1.sys D2.sys (flat_nil D1) (flat_nil D2) hu (fun _ => .nil) hq⟩
            | cons kv kvs =>
              subst h
              obtain ⟨es, ep, k1, k2⟩ := D1.size
              obtain ⟨es', ep', k3, k4⟩ := D2.size
              have hsz : ¬ es.size = es'.size := by rw [k2, k4]; simp
              exact ⟨fun E Q hq => raw_eq D1.sys D2.sys k1 k3 hsz hu hq, fun E Q hq => raw_ne D1.sys D2.sys k1 k3 hsz hu hq⟩
    | _ => cases h
  | _ => cases h
theorem o2_eqA (hu : X.A.units + 64 < cLine) : O2 X W (compareOp .Eq) vEqA := o2_of fun pins s σ H x y v u Q ρ μ p q I rx ry r1 r2 t h => by
  have h : Post X.prog X.w X.K W ρ H (match dEmp μ p q with | some b => .ok (.bl b) μ | none => vEq [p, q] μ) (RV X.K) Q := h
  cases e : dEmp μ p q with
  | none =>
    rw [e] at h
    exact o2_eq (W := W) hu pins s σ H x y v u Q I rx ry ⟨ρ, μ, [p, q], .cons r1 (.cons r2 .nil), t, h⟩
  | some b =>
    rw [e] at h
    exact (dEmp_of (by omega) I rx ry r1 r2 t e).1 _ _ ⟨.bl b, H, I, rfl, h ρ _ H Step.refl (.bl _) t⟩
theorem o2_neA (hu : X.A.units + 64 < cLine) : O2 X W (compareOp .NotEq) vNeA := o2_of fun pins s σ H x y v u Q ρ μ p q I rx ry r1 r2 t h => by
  have h : Post X.prog X.w X.K W ρ H (match dEmp μ p q with | some b => .ok (.bl (!b)) μ | none => vNe [p, q] μ) (RV X.K) Q := h
  cases e : dEmp μ p q with
  | none =>
    rw [e] at h
    exact o2_ne (W := W) hu pins s σ H x y v u Q I rx ry ⟨ρ, μ, [p, q], .cons r1 (.cons r2 .nil), t, h⟩
  | some b =>
    rw [e] at h
    exact (dEmp_of (by omega) I rx ry r1 r2 t e).2 _ _ ⟨.bl (!b), H, I, rfl, h ρ _ H Step.refl (.bl _) t⟩
/-- len -/
theorem DIs.callLen {pins : List (Addr × Obj)} {σ : L2.St} {H : Hp} {s : Shared} {ρ : List Addr} {a : Addr} {kvs : List (PV × PV)} {A : Around} {E : Value → Shared → Prop} {Q : Value → Shared → Prop} (D : DIs X H s ρ a kvs) (I : Inv X pins σ H s)
    (h : ∀ t s', Inv X pins σ H s' → Q (.int kvs.length t) s') : wpAny (model X.prog X.w) A (call (.builtin "len") [.ref a]) Q E s := by
  have z := D.len
  rw [sizeLine_eq] at z
  rcases D.kind with ⟨vs, h1, h2⟩ | ⟨xs, h1, h2⟩
  · refine call_len_dict D.sys h1 (by rw [← Paired.length h2]; omega) ?_
    rw [← Paired.length h2]
    exact h _ _ (I.tok _)
  · refine call_len_dictH D.sys h1 (by rw [← Paired.length h2]; omega) ?_
    rw [← Paired.length h2]
    exact h _ _ (I.tok _)
theorem oc_len : OC X W (.builtin "len") vLen := oc1_of fun pins s σ H xs us Q ρ μ ps I r rp t h => by
  cases rp with
  | nil => exact h.elim
  | @cons p x _ _ r1 r2 =>
    cases r2 with
    | cons _ _ => exact h.elim
    | nil =>
      have h : Post X.prog X.w X.K W ρ H (match lenOf μ p with | some n => .ok (.int n) μ | none => .bad) (RV X.K) Q := h
      cases e : lenOf μ p with
      | none => rw [e] at h; exact h.elim
      | some n =>
        rw [e] at h
        have q : Q (.int n) H := h ρ _ H Step.refl (.int _) t
        cases r1 with
        | tup h1 h2 =>
          cases e
          rw [h2.length] at q
          exact call_len_seq pins s σ H _ us Q I r ⟨_, _, rfl, .inr h1, q⟩
        | str z =>
          have e : (if z.length ≤ sizeLine then some z.length else none) = some n := e
          by_cases c : z.length ≤ sizeLine
          · rw [if_pos c] at e
            cases e
            exact call_len_str pins s σ H _ us Q I r ⟨z, rfl, c, q⟩
          · rw [if_neg c] at e
            cases e
        | @ref i a ha =>
          have e : (match dctAt μ i with | some kvs => some kvs.length | none => (seqAt μ i).map (·.length)) = some n := e
          cases e1 : dctAt μ i with
          | some kvs =>
            rw [e1] at e
            cases e
            obtain ⟨u, rfl, rx⟩ := vals1 r
            obtain rfl : u = Value.ref a := rx
            exact (dis_of I t ha (dctAt_get e1)).callLen I fun tk s' I' => ⟨.int kvs.length, H, I', ⟨tk, rfl⟩, q⟩
          | none =>
            rw [e1] at e
            obtain ⟨qs, e2, rfl⟩ := Option.map_eq_some_iff.mp e
            obtain ⟨vs, h1, h2⟩ := seqAt_of t ha e2
            rw [h2.length] at q
            exact call_len_seq pins s σ H _ us Q I r ⟨_, _, rfl, .inl h1, q⟩
        | _ => cases e
/-- a method call: the receiver of this type -/
def dM (tp : PV → Sto → Bool) (f : VF) (d : DE) (ds : DA) : DE := fun η μ => (d η μ).bind fun p μ1 => if tp p μ1 = true then (ds η μ1).bind fun ps μ2 => f (p :: ps) μ2 else .bad
def isLstP : PV → Sto → Bool := fun p μ => match p with | .ref i => (seqAt μ i).isSome | _ => false
def tyE (X : Cx) (tp : PV → Sto → Bool) (x : V) (H : Hp) : Prop := ∃ ρ μ p, RV X.K ρ H p x ∧ RSt X.prog X.w X.K ρ H μ ∧ tp p μ = true
theorem ty_lst : TyOk X "list" (tyE X isLstP) := fun pins σ H s x v I rx ⟨ρ, μ, p, r, t, h⟩ => by
  cases r with
  | @ref i a ha =>
    have h : (seqAt μ i).isSome = true := h
    obtain ⟨ps, e⟩ := Option.isSome_iff_exists.mp h
    obtain ⟨vs, h1, h2⟩ := seqAt_of t ha e
    exact tyV_is I rx (.inl ⟨rfl, vs, h1⟩)
  | _ => cases h
theorem dM_of {tp : PV → Sto → Bool} {f : VF} {d : DE} {ds : DA} {σ : L2.St} {H : Hp} {Q : VK} (h : T X.prog X.w X.K W (dM tp f d ds) σ H Q) :
    T X.prog X.w X.K W d σ H fun x H1 => tyE X tp x H1 ∧ TL X.prog X.w X.K W ds σ H1 fun vs H2 => rL X.prog X.w X.K W f (x :: vs) H2 Q := by
  obtain ⟨ρ, η, μ, en, s, q⟩ := h
  refine ⟨ρ, η, μ, en, s, (Post.bind q).mono fun x H1 ⟨ρ1, a, μ1, st, r, s1, q1⟩ => ?_⟩
  by_cases c : tp a μ1 = true
  · simp only [if_pos c] at q1
    refine ⟨⟨ρ1, μ1, a, r, s1, c⟩, ρ1, η, μ1, en.step st, s1, (Post.bind q1).mono fun vs H2 ⟨ρ2, qs, μ2, st2, r2, s2, q2⟩ => ?_⟩
    exact ⟨ρ2, μ2, a :: qs, .cons (r.step st2) r2, s2, q2⟩
  · simp only [if_neg c] at q1
    exact q1.elim
theorem le_m {o e : Expr} {es : List Expr} {T id : String} {name : Str} {apos cpos : Pos} {tp : PV → Sto → Bool} {f : VF} {d : DE} {ds : DA} (ht : TyOk X T (tyE X tp)) (pa : PlainAttrs T) (slot : Slot T name id) (hty : typeOf (.builtin id) = pure (.type "method_descriptor")) (hm : OM X W id f) (ho : LE X W o d) (ha : LA X W (e :: es) ds)
    (hbase : attributeBase o name X.env (eval o X.env) = eval o X.env := by rfl)
    (hfew : ((backTo cpos (starEach (e :: es) X.env)).all (fun x => !x.1) && (backToKw cpos (keywordEach [] X.env)).all (fun x => x.1.isSome)
      && decide ((e :: es).length + ([] : List Keyword).length + (if ([] : List Keyword).isEmpty then 0 else 1) < 30)) = true := by rfl)
    (hline : (apos.endLine == cpos.line) = true := by rfl) (hs : starEach (e :: es) X.env = (false, eval e X.env) :: starEach es X.env := by rfl) (hplain : (backTo cpos (starEach es X.env)).any (·.1) = false := by rfl) :
    LE X W (.Call (.Attribute o name apos) (e :: es) [] cpos) (dM tp f d ds) := (pe_mG ht pa slot hty hm ho ha hbase hfew hline hs hplain).impD fun _ _ _ h => dM_of h
theorem le_cb {x : Str} {e : Expr} {es : List Expr} {p pos : Pos} {f : VF} {ds : DA} {id : String} (hc : OC X W (.builtin id) f) (hg : Gl X x) (hm : X.mg x = none) (hv : bootBuiltins x = some (.builtin id)) (ha : LA X W (e :: es) ds) (hn : x ≠ "__name__" := by decide) (hdb : (x == ("__debug__" : Str)) = false := by decide)
    (he : starEach (e :: es) X.env = (false, eval e X.env) :: starEach es X.env := by rfl) (hpl : (backTo pos (starEach es X.env)).any (·.1) = false := by rfl) :
    LE X W (.Call (.Name x p) (e :: es) [] pos) (dApp f ds) := (pe_callB hc hg hm hv ha hn hdb he hpl).impD fun _ _ _ h => app_of h
theorem le_ct {x : Str} {e : Expr} {es : List Expr} {p pos : Pos} {f : VF} {ds : DA} {T : String} (hc : OC X W (.type T) f) (hg : Gl X x) (hm : X.mg x = none) (hv : bootBuiltins x = some (.type T)) (ha : LA X W (e :: es) ds) (hn : x ≠ "__name__" := by decide) (hdb : (x == ("__debug__" : Str)) = false := by decide)
    (he : starEach (e :: es) X.env = (false, eval e X.env) :: starEach es X.env := by rfl) (hpl : (backTo pos (starEach es X.env)).any (·.1) = false := by rfl) :
    LE X W (.Call (.Name x p) (e :: es) [] pos) (dApp f ds) := (pe_callTy hc hg hm hv ha hn hdb he hpl).impD fun _ _ _ h => app_of h
end
end DL
namespace DL
open PySem PySem.Spec PyProof.Rows L2
theorem tuple_mul1 (l : Addr) (items : Array Value) (n : Nat) (sl : Array (Option Value)) (dd : Option Addr) (u : Tok) :
    Meets (Builtin.«tuple.__mul__» ⟨[.ref l, .int 1 u], []⟩) (fun _ R s => s.heap.get? l = some { cls := .type "tuple", dict := dd, data := .seq items n, slots := sl } ∧ R (.ok (.ret (.ref l))) s) :=
  .of_wp fun prog w A R s h => by
    obtain ⟨hp, g, d, tk, os⟩ := s
    obtain ⟨hl, h⟩ := h
    have f1 := AutoSeq1.idx_int
    have c1 : (items.isEmpty || (1 : Int) == 1) = true := by simp
    wp_walk using wpAny_loadPart' hl
    repeat (first
      | exact ⟨_, rfl, h⟩
      | (rw [if_pos c1]; wp_walk using wpAny_loadPart' hl)
      | (refine wpAny_ite_true (decide_eq_true c1) ?_; wp_walk using wpAny_loadPart' hl))
def vMulA : VF := fun xs μ => match xs with
  | [.tup ps, .int k] => if k = 1 then .ok (.tup ps) μ else vMul [.tup ps, .int k] μ
  | [p, q] => vMul [p, q] μ
  | _ => .bad
section
variable {X : Cx} {W : EW}
theorem o2_mulA : O2 X W (binaryOp .Mult) vMulA := o2_of fun pins s σ H x y v u Q ρ μ p q I rx ry r1 r2 t h => by
  have other : Post X.prog X.w X.K W ρ H (vMul [p, q] μ) (RV X.K) Q → wpAny (model X.prog X.w) X.A (binaryOp .Mult v u) (EP X pins σ Q) X.xe s := fun h =>
    o2_mul (W := W) pins s σ H x y v u Q I rx ry ⟨ρ, μ, [p, q], .cons r1 (.cons r2 .nil), t, h⟩
  cases r1 with
  | @tup ps vs l h1 h2 =>
    cases r2 with
    | int k =>
      have h : Post X.prog X.w X.K W ρ H (if k = 1 then .ok (.tup ps) μ else vMul [.tup ps, .int k] μ) (RV X.K) Q := h
      by_cases c : k = 1
      · rw [if_pos c] at h
        subst c
        cases rx
        obtain ⟨tk, rfl⟩ := ry
        obtain ⟨its, r, ⟨⟨cls, dd, data, sl⟩, ho, hc, n, hd⟩, hs⟩ := I.tuple h1
        simp only at hc hd
        subst hc hd
        refine wpAny_binaryOp_repeat_ref (T := "tuple") (U := "int") (by decide) ⟨_, ho, rfl⟩ (fun s' => typeIs_int s' 1 tk) noFill_tuple_mul F.fills_int_mul F.slot_int_rmul repeat_tuple F.slot_int_index.lookup
          (call_meets F.slot_int_rmul (typeIs_int s 1 tk) F.entry_int_rmul (F.args_int_rmul_2 _ _) (int_rmul_tuple 1 tk l its.toArray n dd sl)
            ⟨ho, rfl, ⟨_, ho, rfl⟩, call_meets F.slot_tuple_mul ⟨_, ho, rfl⟩ F.entry_tuple_mul (F.args_tuple_mul_2 _ _) (tuple_mul1 l its.toArray n sl dd tk) ⟨ho, ?_⟩⟩)
        exact ⟨.ref l, H, I, rfl, h ρ _ H Step.refl (.tup h1 h2) t⟩
      · rw [if_neg c] at h
        exact other h
    | _ => exact other h
  | non => exact other (by cases r2 <;> exact h)
  | bl b => exact other (by cases r2 <;> exact h)
  | int i => exact other (by cases r2 <;> exact h)
  | str z => exact other (by cases r2 <;> exact h)
  | ty n => exact other (by cases r2 <;> exact h)
  | glb a => exact other (by cases r2 <;> exact h)
  | exc _ _ _ _ _ _ => exact other (by cases r2 <;> exact h)
  | ref ha => exact other (by cases r2 <;> exact h)
def storeL (i v : PV) (ps : List PV) : Option (List PV) := match i with
  | .int k => (ixN ps.length k).map fun n => ps.set n v
  | _ => none
/-- of a list, of a dict: the store behind it -/
def vStore (o i v : PV) (μ : Sto) : Option Sto := match o with
  | .ref j => match dctAt μ j with
    | some kvs => if keyIn kvs i = true ∧ kvs.length < sizeLine then some (μ.set j (.dct (dput kvs i v))) else none
    | none => match (isLst μ j).bind (storeL i v) with
      | some ps => some (μ.set j (.lst ps))
      | none => none
  | _ => none
def gItem (d1 d2 : DE) : DG := fun p η μ => (d1 η μ).bind fun o μ1 => (d2 η μ1).bind fun i μ2 => match vStore o i p μ2 with
  | some μ3 => .ok η μ3
  | none => .bad
def rStore (P : Program) (w : World) (K : PySem.W.Frag) : TSet := fun ox ix vx H Q => ∃ ρ μ o i v μ', RV K ρ H o ox ∧ RV K ρ H i ix ∧ RV K ρ H v vx ∧ RSt P w K ρ H μ ∧ vStore o i v μ = some μ' ∧ ∀ H', Step K ρ H ρ H' → RSt P w K ρ H' μ' → Q H'
theorem set_any (hu : X.A.units + 9 < cLine) : PSet X (rStore X.prog X.w X.K) := by
  intro pins s σ H ox ix vx ov iv u Q I ro ri rv h
  obtain ⟨ρ, μ, o, i, v, μ', r1, r2, r3, t, e, q⟩ := h
  cases r1 with
  | @ref j a ha =>
    obtain rfl : ov = Value.ref a := ro
    have e : (match dctAt μ j with
      | some kvs => if keyIn kvs i = true ∧ kvs.length < sizeLine then some (μ.set j (.dct (dput kvs i v))) else none
      | none => match (isLst μ j).bind (storeL i v) with
        | some ps => some (μ.set j (.lst ps))
        | none => none) = some μ' := e
    cases e1 : dctAt μ j with
    | some kvs =>
      rw [e1] at e
      by_cases c : keyIn kvs i = true ∧ kvs.length < sizeLine
      · simp only [if_pos c, Option.some.injEq] at e
        subst e
        have D := dis_of I t ha (dctAt_get e1)
        exact dd_setItem hu I t ha D (dis_key I D c.1 r2 ri) r3 rv c.2 fun H' s' st t' I' => ⟨H', I', q H' st t'⟩
      · simp only [if_neg c] at e
        cases e
    | none =>
      rw [e1] at e
      cases e2 : isLst μ j with
      | none => simp only [e2, Option.bind_none] at e; cases e
      | some ps =>
        simp only [e2, Option.bind_some] at e
        obtain ⟨vs, h1, h2⟩ := isLst_of t ha e2
        cases r2 with
        | int k =>
          have e : (match (ixN ps.length k).map (fun n => ps.set n v) with
            | some ps => some (μ.set j (.lst ps))
            | none => none) = some μ' := e
          cases e3 : ixN ps.length k with
          | none => rw [e3] at e; cases e
          | some n =>
            rw [e3, Option.map_some] at e
            simp only [Option.some.injEq] at e
            subst e
            obtain ⟨st, t'⟩ := write_lst t ha h1 (h2.set r3 n)
            exact set_list pins s σ H (.ref a) (.int k) vx _ iv u Q I rfl ri rv ⟨a, vs, k, n, rfl, rfl, h1, by rw [← h2.length]; exact e3, q _ st t'⟩
        | _ => cases e
  | _ => cases e
theorem lg_item {o i : Expr} {pos : Pos} {d1 d2 : DE} {js : List Nat} (hu : X.A.units + 9 < cLine) (ho : LE X W o d1) (hi : LE X W i d2)
    (ha : ∀ v, assign (.Subscript o i pos) X.env v = (do
      let ov ← holding [v] (eval o X.env)
      let iv ← holding [v, ov] (eval i X.env)
      standAt pos
      holding [v, ov, iv] (setItem ov iv v)
      release [v, ov, iv] []) := by intro _; rfl) : LG X W js (.Subscript o i pos) (gItem d1 d2) := (pg_sub ho hi (set_any hu) ha).impD fun v σ H Q ⟨ρ, η, μ, p, en, r, s, q⟩ => by
  refine ⟨ρ, η, μ, en, s, (Post.bind q).mono fun ox H1 ⟨ρ1, o, μ1, st, r1, s1, q1⟩ => ?_⟩
  refine ⟨ρ1, η, μ1, en.step st, s1, (Post.bind q1).mono fun ix H2 ⟨ρ2, i, μ2, st2, r2, s2, q2⟩ => ?_⟩
  cases e : vStore o i p μ2 with
  | none => rw [e] at q2; exact q2.elim
  | some μ3 =>
    rw [e] at q2
    exact ⟨ρ2, μ2, o, i, p, μ3, r1.step st2, r2, (r.step st).step st2, s2, e, fun H' st' s' => q2 ρ2 σ H' st' ⟨((en.step st).step st2).step st', .refl⟩ s'⟩
inductive Tg where
  | non | bl | int | str | tup | lst | dct | own (C : Addr) | exc (C : Addr)
  deriving DecidableEq
def tgOf (p : PV) (μ : Sto) : Option Tg := match p with
  | .non => some .non
  | .bl _ => some .bl
  | .int _ => some .int
  | .str _ => some .str
  | .tup _ => some .tup
  | .ref i => match μ[i]? with
    | some (.lst _) => some .lst
    | some (.rol _) => some .lst
    | some (.dct _) => some .dct
    | some (.ins C _) => some (.own C)
    | none => none
  | .exc C _ => some (.exc C)
  | _ => none
def tgVal : Tg → Value
  | .non => .type "NoneType"
  | .bl => .type "bool"
  | .int => .type "int"
  | .str => .type "str"
  | .tup => .type "tuple"
  | .lst => .type "list"
  | .dct => .type "dict"
  | .own C => .ref C
  | .exc C => .ref C
def vIsi (f : Tg → Option Bool) : VF := fun xs μ => match xs with
  | [p] => match (tgOf p μ).bind f with
    | some b => .ok (.bl b) μ
    | none => .bad
  | _ => .bad
/-- an own class, for isinstance -/
structure OwnI (K : PySem.W.Frag) (C : Addr) : Prop where
  cl : Cls K C
  ha : PySem.W.findIn K (.ref C) "__class__" = some (some (.builtin "object.__class__"))
  hn : PySem.W.specialIn K (.builtin "object.__class__") "__get__" = some (some (.builtin "getset_descriptor.__get__"))
  htk : PySem.W.takesIn K (.builtin "object.__class__") = some true
  hm : PySem.W.mroIn K C (.type "object") = some true
/-- an own exception class, for isinstance -/
structure ExcI (K : PySem.W.Frag) (C : Addr) : Prop where
  cl : (PySem.W.clsIn K C).isSome = true
  ga : PySem.W.findIn K (.ref C) "__getattribute__" = some (some (.builtin "BaseException.__getattribute__"))
  gt : PySem.W.findIn K (.ref C) "__getattr__" = some none
  be : PySem.W.subIn K (.ref C) (.type "BaseException") = some true
  ha : PySem.W.findIn K (.ref C) "__class__" = some (some (.builtin "object.__class__"))
  hn : PySem.W.specialIn K (.builtin "object.__class__") "__get__" = some (some (.builtin "getset_descriptor.__get__"))
  ht : PySem.W.takesIn K (.builtin "object.__class__") = some true
  hm : PySem.W.mroIn K C (.type "object") = some true
/-- what isinstance(.., c) answers -/
structure IsiC (K : PySem.W.Frag) (c : Value) (f : Tg → Option Bool) : Prop where
  one : ∀ t b, f t = some b → PySem.W.kitOne K (tgVal t) c = some b
  own : ∀ C b, f (.own C) = some b → OwnI K C
  exc : ∀ C b, f (.exc C) = some b → ExcI K C
theorem isi_of {c : Value} {f : Tg → Option Bool} {pins : List (Addr × Obj)} {σ : L2.St} {H : Hp} {s : Shared} {ρ : List Addr} {μ : Sto} {p : PV} {x : V} {u : Value} {tg : Tg} {b : Bool} {Q : Value → Shared → Prop} {E : Value → Shared → Prop} (F : IsiC X.K c f) (I : Inv X pins σ H s) (t : RSt X.prog X.w X.K ρ H μ) (r : RV X.K ρ H p x) (rx : RelV x u)
    (h1 : tgOf p μ = some tg) (h2 : f tg = some b) (h : ∀ tk, Q (.bool b) { s with toks := tk }) : wpAny (model X.prog X.w) X.A (call (.builtin "isinstance") [u, c]) Q E s := by
  have e := F.one tg b h2
  have go : ∀ {P : Heap → Prop}, PySem.W.KitX X.K u (tgVal tg) P → P s.heap → u ≠ .builtin "__main__.__loader__#opaque" → wpAny (model X.prog X.w) X.A (call (.builtin "isinstance") [u, c]) Q E s := fun Z p hx => PySem.W.kia_one Z I.kIn p e hx h
  cases r with
  | non => cases h1; cases (show u = Value.none from rx); exact go PySem.W.kitx_none True.intro (fun z => nomatch z)
  | bl y => cases h1; cases (show u = Value.bool y from rx); exact go PySem.W.kitx_bool True.intro (fun z => nomatch z)
  | int i => cases h1; obtain ⟨t, q⟩ := (show ∃ t, u = Value.int i t from rx); cases q; exact go PySem.W.kitx_int True.intro (fun z => nomatch z)
  | str y => cases h1; obtain ⟨t, q⟩ := (show ∃ t, u = Value.str y t from rx); cases q; exact go PySem.W.kitx_str True.intro (fun z => nomatch z)
  | tup k1 k2 =>
    cases h1
    cases rx
    obtain ⟨its, rv, pl, _⟩ := I.tuple k1
    exact go PySem.W.kitx_tuple pl.typeIs (fun z => nomatch z)
  | @ref i a ha =>
    cases (show u = Value.ref a from rx)
    have h1 : (match μ[i]? with
      | some (.lst _) => some Tg.lst
      | some (.rol _) => some .lst
      | some (.dct _) => some .dct
      | some (.ins C _) => some (.own C)
      | none => none) = some tg := h1
    cases e1 : μ[i]? with
    | none => rw [e1] at h1; cases h1
    | some ob =>
      rw [e1] at h1
      cases ob with
      | lst ps =>
        cases h1
        obtain ⟨vs, k1, k2⟩ := seqAt_of t ha (show seqAt μ i = some ps by unfold seqAt; rw [e1])
        obtain ⟨its, rv, pl, _⟩ := I.list k1
        exact go PySem.W.kitx_list pl.isList.typeIs (fun z => nomatch z)
      | rol ps =>
        cases h1
        obtain ⟨vs, k1, k2⟩ := seqAt_of t ha (show seqAt μ i = some ps by unfold seqAt; rw [e1])
        obtain ⟨its, rv, pl, _⟩ := I.list k1
        exact go PySem.W.kitx_list pl.isList.typeIs (fun z => nomatch z)
      | dct kvs =>
        cases h1
        exact go PySem.W.kitx_dict (dis_of I t ha e1).typeIs (fun z => nomatch z)
      | ins C fs =>
        cases h1
        obtain ⟨dx, gs, k1, k2, k3⟩ := t.obj i a _ ha e1
        have O := F.own C b h2
        obtain ⟨P, Z, p, hx⟩ := kit_of I (x := .ref a) (u := .ref a) rfl (.base (.ins k1 O.cl O.ha O.hn O.htk O.hm))
        exact go Z p hx
  | @exc C a d oe od fs p x e1 e2 e3 e4 e5 r =>
    cases h1
    cases (show u = Value.ref a from rx)
    have O := F.exc C b h2
    have ha := (I.hok a _ e1).1
    have hd := (I.hok d _ e5).1
    exact go (PySem.W.kitx_exc (x := a) (ox := oe) (od := some od) O.cl O.ga O.gt O.be O.ha O.hn O.ht O.hm) ⟨ha, e2, by unfold PySem.W.notCls; rw [e4] <;> rfl, by rw [e3]; exact hd⟩ (fun z => nomatch z)
  | _ => cases h1
theorem oc_isi {c : Value} {v0 : V} {f : Tg → Option Bool} (F : IsiC X.K c f) (hv : ∀ u, RelV v0 u → u = c) : CallR X (.builtin "isinstance") (fun xs H Q => ∃ x, xs = [x, v0] ∧ rL X.prog X.w X.K W (vIsi f) [x] H Q) := by
  intro pins s σ H xs us Q I r h
  obtain ⟨x, rfl, ρ, μ, ps, rp, t, q⟩ := h
  obtain ⟨u, u', rfl, r1, r2⟩ := vals2 r
  obtain rfl := hv u' r2
  cases rp with
  | @cons p _ _ _ rp1 rp2 =>
    cases rp2
    have q : Post X.prog X.w X.K W ρ H (match (tgOf p μ).bind f with | some b => .ok (.bl b) μ | none => .bad) (RV X.K) Q := q
    cases e : tgOf p μ with
    | none => rw [e] at q; exact q.elim
    | some tg =>
      rw [e, Option.bind_some] at q
      cases e2 : f tg with
      | none => rw [e2] at q; exact q.elim
      | some b =>
        rw [e2] at q
        exact isi_of F I t rp1 r1 e e2 fun tk => ⟨.bl b, H, I.tok tk, rfl, q ρ _ H Step.refl (.bl _) t⟩
theorem le_isi {c : Value} {v0 : V} {f : Tg → Option Bool} {e ce : Expr} {p pos : Pos} {d : DE} (F : IsiC X.K c f) (hv : ∀ u, RelV v0 u → u = c) (hg : Gl X "isinstance") (hm : X.mg "isinstance" = none) (h1 : LE X W e d) (h2 : PE X ce (tC v0))
    (s1 : starEach (e :: [ce]) X.env = (false, eval e X.env) :: starEach [ce] X.env := by rfl) (s2 : starEach (ce :: []) X.env = (false, eval ce X.env) :: starEach [] X.env := by rfl) (hpl : (backTo pos (starEach [ce] X.env)).any (·.1) = false := by rfl) :
    LE X W (.Call (.Name "isinstance" p) [e, ce] [] pos) (dApp (vIsi f) (dCons d dNil)) :=
  (pe_callB (oc_isi (W := W) F hv) hg hm (by decide +kernel) (pa_cons h1 (pa_cons h2 pa_nil s2) s1) (by decide) (by decide) s1 hpl).impD fun σ H Q h => (app1 h).mono fun x H1 h => ⟨x, rfl, h⟩
end
/-- isinstance(.., a built-in type) -/
def isiB (n : Tg) (cs : List Addr) : Tg → Option Bool
  | .own C => if C ∈ cs then some false else none
  | .exc _ => none
  | t => some (decide (t = n) || (decide (t = .bl) && decide (n = .int)))
end DL
namespace DL
open PySem PySem.Spec PyProof.Rows L2
section
variable {X : Cx} {W : EW} {pins : List (Addr × Obj)} {σ : L2.St} {H : Hp} {s : Shared} {ρ : List Addr} {μ : Sto}
/-- a new object, whatever it is, is known by itself -/
theorem ext_laid {h' : Heap} {a : Addr} {o : Obj} {t' : Nat} (I : Inv X pins σ H s) (k : ∀ b u, s.heap.get? b = some u → h'.get? b = some u) (hp : s.heap.objs.size ≤ a) (he : h'.get? a = some o) :
    Inv X pins σ (upd H a (dO a o)) { s with heap := h', toks := t' } := I.laid (o := dO a o) k hp ⟨he, ⟨o, he⟩, fun h1 h2 z k => k _ z⟩
theorem obj_empty {P : Program} {w : World} {K : PySem.W.Frag} {ρ : List Addr} {H : Hp} : DObj P w K ρ H { cls := .type "dict", data := .dict #[] } [] :=
  ⟨⟨rfl, rfl, rfl⟩, Nat.zero_le _, #[], 0, rfl, .inl ⟨[], (fun e he => by simp at he), .nil, List.nodup_nil, .nil⟩⟩
theorem ne_sys (I : Inv X pins σ H s) {a : Addr} (h : s.heap.objs.size ≤ a) : (a == sysModules) = false := beq_eq_false_iff_ne.mpr (Ne.symm (Nat.ne_of_lt (Nat.lt_of_lt_of_le I.big h)))
def dNewD : DE := fun _ μ => .ok (.ref μ.length) (μ ++ [.dct []])
theorem le_newD {pos : Pos} : LE X W (.Dict [] [] pos) dNewD := ⟨fun pins s σ H Q I ⟨ρ, η, μ, en, t, q⟩ => by
  have hn : H s.heap.objs.size = none := I.hok.fresh (Nat.le_refl _)
  have I1 : Inv X pins σ (upd H s.heap.objs.size (dO s.heap.objs.size { cls := .type "dict", data := .dict #[] })) { s with heap := s.heap.push { cls := .type "dict", data := .dict #[] }, toks := s.toks } :=
    ext_laid I (fun _ _ q => Heap.get?_push_of_some _ q) (Nat.le_refl _) (Heap.get?_push_size _ rfl)
  refine wpAny_Dict_empty ⟨.ref s.heap.objs.size, _, I1, rfl, ?_⟩
  exact q (ρ ++ [s.heap.objs.size]) (.ref s.heap.objs.size) _ (Step.new hn) (.ref t.nextId) (t.new hn ⟨_, upd_same, ne_sys I (Nat.le_refl _), obj_empty⟩)⟩
end
def dPairs : List (DE × DE) → Env' → Sto → Rz (List (PV × PV))
  | [], _, μ => .ok [] μ
  | d :: ds, η, μ => (d.1 η μ).bind fun k μ1 => (d.2 η μ1).bind fun v μ2 => (dPairs ds η μ2).bind fun r μ3 => .ok ((k, v) :: r) μ3
def mergeP (kvs more : List (PV × PV)) : List (PV × PV) := more.foldl (fun acc kv => dput acc kv.1 kv.2) kvs
/-- keys of one kind, each within reach -/
def keysOne : List (PV × PV) → Bool
  | [] => false
  | q :: r => keyIn (q :: r) q.1 && r.all fun z => keyIn (q :: r) z.1
def dDisp (ds : List (DE × DE)) : DE := fun η μ => (dPairs ds η μ).bind fun kvs μ1 => if keysOne kvs = true ∧ kvs.length ≤ 15 then .ok (.ref μ1.length) (μ1 ++ [.dct (mergeP [] kvs)]) else .bad
abbrev RPs (K : PySem.W.Frag) (ρ : List Addr) (H : Hp) : List (PV × PV) → List (V × V) → Prop := Paired fun p q => RV K ρ H p.1 q.1 ∧ RV K ρ H p.2 q.2
theorem length_mergeP : ∀ (more kvs : List (PV × PV)), (mergeP kvs more).length ≤ kvs.length + more.length
  | [], kvs => Nat.le_refl _
  | p :: r, kvs => by
    have h1 := length_mergeP r (dput kvs p.1 p.2)
    have h2 := length_dput kvs p.1 p.2
    show (mergeP (dput kvs p.1 p.2) r).length ≤ _
    rw [List.length_cons]
    omega
section
variable {X : Cx} {W : EW}
def trsOf (X : Cx) (W : EW) (ds : List (DE × DE)) : List (TE × TE) := ds.map fun d => (T X.prog X.w X.K W d.1, T X.prog X.w X.K W d.2)
abbrev LP (X : Cx) (W : EW) (pos : Pos) (keys : List (Option Expr)) (values : List Expr) (ds : List (DE × DE)) : Prop := PPs X pos keys values (trsOf X W ds)
theorem lp_nil {pos : Pos} : LP X W pos [] [] [] := pps_nil
theorem lp_cons {pos : Pos} {k v : Expr} {ks : List (Option Expr)} {vs : List Expr} {dk dv : DE} {ds : List (DE × DE)} (hk : LE X W k dk) (hv : LE X W v dv) (hr : LP X W pos ks vs ds) : LP X W pos (some k :: ks) (v :: vs) ((dk, dv) :: ds) := pps_cons hk hv hr
theorem pairs_tr : ∀ {ds : List (DE × DE)} {ρ : List Addr} {η : Env'} {μ : Sto} {σ : L2.St} {H : Hp} {Q : List (V × V) → Hp → Prop}, REnv X.K ρ H η σ → RSt X.prog X.w X.K ρ H μ → Post X.prog X.w X.K W ρ H (dPairs ds η μ) (RPs X.K) Q → tPairs (trsOf X W ds) σ H Q
  | [], ρ, η, μ, σ, H, Q, en, t, q => q ρ [] H Step.refl .nil t
  | d :: ds, ρ, η, μ, σ, H, Q, en, t, q => by
    unfold dPairs at q
    refine ⟨ρ, η, μ, en, t, (Post.bind q).mono fun x H1 ⟨ρ1, a, μ1, st, r, s1, q1⟩ => ?_⟩
    refine ⟨ρ1, η, μ1, en.step st, s1, (Post.bind q1).mono fun y H2 ⟨ρ2, b, μ2, st2, r2, s2, q2⟩ => ?_⟩
    refine pairs_tr ((en.step st).step st2) s2 ((Post.bind q2).mono fun ps H3 ⟨ρ3, kvs, μ3, st3, r3, s3, q3⟩ => ?_)
    exact q3 ρ3 ((x, y) :: ps) H3 Step.refl (.cons ⟨(r.step st2).step st3, r2.step st3⟩ r3) s3
theorem dict_pairsA {κ : Type} [DecidableEq κ] {prog : Program} {w : World} {knd : HeapKind prog w κ} {A : Around} {E : Value → Shared → Prop} {s : Shared} {env : Env} {keys : List (Option Expr)} {values : List Expr} {pos : Pos} {Q : Value → Shared → Prop} (hu : knd.room A)
    (hall : keys.all (·.isSome) = true) (hl : keys.length = values.length) (h0 : keys ≠ []) (hlen : keys.length ≤ 15)
    (h : wpAny (model prog w) A (evalPairs (pairTrees keys values env pos)) (fun vs s₁ => ∃ ps, CarriesH knd s₁.heap vs ps ∧ s₁.heap.DictOfH knd s.heap.objs.size [] ∧
      ∀ h' tk, h'.DictOfH knd s.heap.objs.size (storedAllH [] ps) → Heap.SameBut s.heap.objs.size s₁.heap h' → Q (.ref s.heap.objs.size) { s₁ with heap := h', toks := tk }) E
      { s with heap := s.heap.push { cls := .type "dict", data := .dict #[] } }) : wpAny (model prog w) A (eval (.Dict keys values pos) env) Q E s := by
  have hn := pairTrees_length keys values env pos hall hl
  have hne : pairTrees keys values env pos ≠ [] := fun he => by
    rw [he] at hn
    exact h0 (List.length_eq_zero_iff.mp hn.symm)
  rw [arm_eval_Dict, zip_pairTrees keys values env pos hall hl, dictDisplay_pairs (pairTrees keys values env pos) hne (by omega)]
  refine wpAny_bind (wpAny_standAt (wpAny_bind (wpAny_subDictH (knd := knd) (Q := fun d s' => wpAny (model prog w) A (pure (Value.ref d)) Q E s') hu (by omega) (wpAny_mono h (fun vs s₁ h₁ => ?_) fun _ _ e => e))))
  obtain ⟨ps, hc, hm, hq⟩ := h₁
  exact ⟨ps, hc, hm, fun h' tk a b => wpAny_pure (hq h' tk a b)⟩
/-- all keys flat, or all nested -/
theorem keys_flat {q : PV × PV} {r : List (PV × PV)} (h : keysOne (q :: r) = true) (hq : isTup q.1 = false) : ∀ z ∈ q :: r, ∃ k, keyOf z.1 = some k := by
  have one : ∀ z : PV × PV, keyIn (q :: r) z.1 = true → ∃ k, keyOf z.1 = some k := by
    intro z h
    unfold keyIn at h
    rw [Bool.and_eq_true] at h
    obtain ⟨h1, h2⟩ := h
    have h2 : (isTup q.1 == isTup z.1) = true := h2
    rw [hq] at h2
    cases e : z.1 with
    | int i => exact ⟨_, rfl⟩
    | str x => exact ⟨_, rfl⟩
    | tup ps => rw [e] at h2; cases h2
    | _ => rw [e] at h1; cases h1
  unfold keysOne at h
  rw [Bool.and_eq_true, List.all_eq_true] at h
  intro z hz
  rcases List.mem_cons.mp hz with e | hz
  · exact one z (by rw [e]; exact h.1)
  · exact one z (h.2 z hz)
theorem keys_nest {q : PV × PV} {r : List (PV × PV)} (h : keysOne (q :: r) = true) (hq : isTup q.1 = true) : ∀ z ∈ q :: r, ∃ ps n, z.1 = .tup ps ∧ nkOf z.1 = some n ∧ n.depth ≤ 8 := by
  have one : ∀ z : PV × PV, keyIn (q :: r) z.1 = true → ∃ ps n, z.1 = .tup ps ∧ nkOf z.1 = some n ∧ n.depth ≤ 8 := by
    intro z h
    unfold keyIn at h
    rw [Bool.and_eq_true] at h
    obtain ⟨h1, h2⟩ := h
    have h2 : (isTup q.1 == isTup z.1) = true := h2
    rw [hq] at h2
    cases e : z.1 with
    | tup ps =>
      rw [e] at h1
      have h1 : (match nkOf (.tup ps) with | some n => decide (n.depth ≤ 8) | none => false) = true := h1
      cases e2 : nkOf (.tup ps) with
      | none => rw [e2] at h1; cases h1
      | some n => rw [e2] at h1; exact ⟨ps, n, rfl, rfl, of_decide_eq_true h1⟩
    | _ => rw [e] at h2; cases h2
  unfold keysOne at h
  rw [Bool.and_eq_true, List.all_eq_true] at h
  intro z hz
  rcases List.mem_cons.mp hz with e | hz
  · exact one z (by rw [e]; exact h.1)
  · exact one z (h.2 z hz)
theorem carry_flat {P : Program} {w : World} {K : PySem.W.Frag} {ρ : List Addr} {H : Hp} : ∀ {kvs : List (PV × PV)} {vs : List (V × V)} {us : List (Value × Value)}, (∀ z ∈ kvs, ∃ k, keyOf z.1 = some k) → RPs K ρ H kvs vs → VV vs us →
    ∃ rs, Carries (mixKind P w) us rs ∧ PrF K ρ H kvs rs
  | [], [], [], _, .nil, .nil => ⟨[], True.intro, .nil⟩
  | p :: _, q :: _, u :: _, hk, .cons h t, .cons g t' => by
    obtain ⟨rs, c, r⟩ := carry_flat (P := P) (w := w) (fun z hz => hk z (List.mem_cons_of_mem _ hz)) t t'
    obtain ⟨k, e⟩ := hk p List.mem_cons_self
    have e1 := keyOf_pv e
    obtain ⟨u1, u2⟩ := u
    have is : (mixKind P w).is k u1 = true := by
      obtain ⟨h1, h2⟩ := h
      rw [← e1] at h1
      cases k with
      | inl i => cases q with | mk q1 q2 => cases h1; exact kV_is g.1
      | inr x => cases q with | mk q1 q2 => cases h1; exact kV_is g.1
    exact ⟨(k, u2) :: rs, ⟨is, rfl, c⟩, .cons ⟨e1.symm, q.2, g.2, h.2⟩ r⟩
theorem carry_nest {pins : List (Addr × Obj)} {σ : L2.St} {H : Hp} {s : Shared} {ρ : List Addr} (I : Inv X pins σ H s) : ∀ {kvs : List (PV × PV)} {vs : List (V × V)} {us : List (Value × Value)}, (∀ z ∈ kvs, ∃ ps n, z.1 = .tup ps ∧ nkOf z.1 = some n ∧ n.depth ≤ 8) → RPs X.K ρ H kvs vs → VV vs us →
    ∃ xs, CarriesH (nestedKind X.prog X.w) s.heap us xs ∧ PrN X.K ρ H kvs xs
  | [], [], [], _, .nil, .nil => ⟨[], True.intro, .nil⟩
  | p :: _, q :: _, u :: _, hk, .cons h t, .cons g t' => by
    obtain ⟨xs, c, r⟩ := carry_nest I (fun z hz => hk z (List.mem_cons_of_mem _ hz)) t t'
    obtain ⟨ps, n, e, e1, e2⟩ := hk p List.mem_cons_self
    have e3 := nkOf_pv e1
    obtain ⟨u1, u2⟩ := u
    obtain ⟨q1, q2⟩ := q
    obtain ⟨h1, h2⟩ := h
    obtain ⟨g1, g2⟩ := g
    have h1' : RV X.K ρ H (.tup ps) q1 := e ▸ h1
    cases h1' with
    | @tup _ vs b k1 k2 =>
      obtain rfl : u1 = Value.ref b := g1
      have is : (nestedKind X.prog X.w).is s.heap n b := ⟨nkey_is I (v := .ref b) (by rw [e3]; exact h1) rfl, e2⟩
      exact ⟨(n, b, u2) :: xs, ⟨rfl, rfl, is, c⟩, .cons ⟨e3.symm, e2, h1, q2, g2, h2⟩ r⟩
theorem prf_merge {K : PySem.W.Frag} {ρ : List Addr} {H : Hp} : ∀ {more : List (PV × PV)} {rs : List (Key × Value)} {kvs : List (PV × PV)} {vs : List (Key × Value)}, PrF K ρ H more rs → PrF K ρ H kvs vs → PrF K ρ H (mergeP kvs more) (merged vs rs)
  | _, _, _, _, .nil, r => r
  | _, _, kvs, vs, .cons (a := p) (b := q) h t, r => by
    have z := pr_put (fun {a b} => pvK_inj) r q.1 (v := p.2) (u := q.2) h.2
    rw [← h.1] at z
    exact prf_merge (kvs := dput kvs p.1 p.2) (vs := stored vs q.1 q.2) t z
theorem prn_merge {K : PySem.W.Frag} {ρ : List Addr} {H : Hp} : ∀ {more : List (PV × PV)} {rs : List (NestedKey × Addr × Value)} {kvs : List (PV × PV)} {vs : List (NestedKey × Addr × Value)}, PrN K ρ H more rs → PrN K ρ H kvs vs → PrN K ρ H (mergeP kvs more) (storedAllH vs rs)
  | _, _, _, _, .nil, r => r
  | _, _, kvs, vs, .cons (a := p) (b := q) h t, r => by
    have z := prn_put r h.2.1 (k := q.1) (b := q.2.1) (v := p.2) (u := q.2.2) (h.1 ▸ h.2.2.1) h.2.2.2
    rw [← h.1] at z
    exact prn_merge (kvs := dput kvs p.1 p.2) (vs := storedH vs q.1 q.2.1 q.2.2) t z
theorem dw0 {X : Cx} {pins : List (Addr × Obj)} {σ : L2.St} {s2 : Shared} {H2 : Hp} {p : Addr} {o0 o : Obj} {kvs : List (PV × PV)} {es : Array DictEntry} {ep : Nat} (I2 : Inv X pins σ H2 s2) (hp : H2 p = some (dO p o0)) (hz : ∀ es ep, o0.data = .dict es ep → es.size = 0) (hd : o.data = .dict es ep) (hsz : es.size = kvs.length) (hne : kvs ≠ []) : DW H2 p (dO p o) := fun o1 es1 ep1 e1 e2 => by
  have e0 : s2.heap.get? p = some o0 := (I2.hok p _ hp).1
  have : s2.heap.get? p = some o1 := (I2.hok p _ e1).1
  rw [e0] at this
  cases this
  have := hz es1 ep1 e2
  have : 0 < kvs.length := List.length_pos_iff.mpr hne
  exact ⟨o, es, ep, rfl, hd, by omega, fun z => by omega⟩
/-- the dict at p, ahead not numbered, gets the next number -/
theorem dict_done {pins : List (Addr × Obj)} {σ : L2.St} {s2 : Shared} {H H2 : Hp} {ρ ρ2 : List Addr} {μ2 : Sto} {p : Addr} {o0 : Obj} {Q : VK} {kvs : List (PV × PV)} {h' : Heap} {tk : Nat} {W' : EW} (I2 : Inv X pins σ H2 s2) (h0 : H p = none) (st : Step X.K ρ H ρ2 H2) (t2 : RSt X.prog X.w X.K ρ2 H2 μ2) (np : p ∉ ρ2)
    (hp : H2 p = some (dO p o0)) (sys : (p == sysModules) = false) (hl : kvs.length ≤ sizeLine) (hs : Heap.SameBut p s2.heap h') (hz : ∀ es ep, o0.data = .dict es ep → es.size = 0) (hd0 : ∃ es ep, o0.data = .dict es ep)
    (d : (∃ vs, h'.DictOf (mixKind X.prog X.w) p vs ∧ PrF X.K ρ2 H2 kvs vs) ∨ ∃ xs, h'.DictOfH (nestedKind X.prog X.w) p xs ∧ PrN X.K ρ2 H2 kvs xs) (hne : kvs ≠ [])
    (q : Post X.prog X.w X.K W' ρ H (.ok (.ref μ2.length) (μ2 ++ [.dct kvs])) (RV X.K) Q) : EP X pins σ Q (.ref p) { s2 with heap := h', toks := tk } := by
  have e0 : s2.heap.get? p = some o0 := (I2.hok p _ hp).1
  have mu : Mut (H2 p) := by rw [hp]; trivial
  have key : ∀ (o : Obj) es ep, h'.get? p = some o → o.data = .dict es ep → es.size = kvs.length → DObj X.prog X.w X.K (ρ2 ++ [p]) (upd H2 p (dO p o)) o kvs → EP X pins σ Q (.ref p) { s2 with heap := h', toks := tk } := by
    intro o es ep ho hd hsz D
    have dw : DW H2 p (dO p o) := fun o1 es1 ep1 e1 e2 => by
      have : s2.heap.get? p = some o1 := (I2.hok p _ e1).1
      rw [e0] at this
      cases this
      have := hz es1 ep1 e2
      have : 0 < kvs.length := List.length_pos_iff.mpr hne
      exact ⟨o, es, ep, rfl, hd, by omega, fun z => by omega⟩
    have I3 : Inv X pins σ (upd H2 p (dO p o)) { s2 with heap := h', toks := tk } := dd_write I2 mu hs ho
    have gr : Grow X.K ρ2 H2 (ρ2 ++ [p]) (upd H2 p (dO p o)) := ⟨fun i a ha => by
      rw [List.getElem?_append_left (List.getElem?_eq_some_iff.mp ha).1]
      exact ha, (Grow.write (ρ := ρ2) mu dw).tup, DKeep.upd dw, (Grow.write (K := X.K) (ρ := ρ2) mu dw).fz⟩
    have nc0 : NC p (dO p o0) := let ⟨_, _, e⟩ := hd0; nc_dct e
    have st3 := st.over h0 mu dw (u := dO p o) (nc0.code hp)
    have t3 := t2.over np mu dw (nc0.code hp) (u := dO p o)
    obtain ⟨more, em, fm⟩ := st3.ext
    refine ⟨.ref p, _, I3, rfl, q (ρ2 ++ [p]) (.ref p) _ ⟨⟨more ++ [p], by rw [em, List.append_assoc], fun b hb o ho => ?_⟩, st3.keep, st3.tup, st3.live, st3.dct, st3.fz, fun p hp h => (st3.tbl p hp h).num upd_same (nc_dct hd)⟩ (.ref ?_) ⟨by simp [t2.len], ?_, fun i a ob ha ho => ?_, fun q hq => (t3.tab q hq).num upd_same (nc_dct hd)⟩⟩
    · rcases List.mem_append.mp hb with hb | hb
      · exact fm b hb o ho
      · rw [List.mem_singleton.mp hb, h0] at ho; cases ho
    · rw [t2.len, List.getElem?_append_right (Nat.le_refl _), Nat.sub_self]
      rfl
    · rw [List.nodup_append]
      refine ⟨t2.nd, by simp, fun a ha b hb => ?_⟩
      rw [List.mem_singleton.mp hb]
      exact fun e => np (e ▸ ha)
    · by_cases hi : i < ρ2.length
      · rw [List.getElem?_append_left hi] at ha
        rw [List.getElem?_append_left (by rw [t2.len]; exact hi)] at ho
        exact (t2.obj i a ob ha ho).step gr fun u hu => by
          rw [upd_ne fun e => np (by rw [← e]; exact List.mem_of_getElem? ha)]
          exact hu
      · have e : i = ρ2.length := by
          have := (List.getElem?_eq_some_iff.mp ha).1
          simp at this
          omega
        subst e
        rw [List.getElem?_append_right (Nat.le_refl _), Nat.sub_self] at ha
        rw [List.getElem?_append_right (by rw [t2.len]; exact Nat.le_refl _), t2.len, Nat.sub_self] at ho
        cases ha
        cases ho
        exact ⟨o, upd_same, sys, D⟩
  rcases d with ⟨vs, ⟨o, es, ep, h1, h2, h3, h4, h5, h6⟩, r⟩ | ⟨xs, ⟨o, es, ep, h1, h2, h3, h4, h5, h6⟩, r⟩
  · have hsz : es.size = kvs.length := by rw [Paired.length r, ← h5.length]; exact Array.length_toList.symm
    refine key o es ep h1 h3 hsz ⟨h2, hl, es, ep, h3, .inl ⟨vs, h4, h5, h6, Paired.mapP r fun p q h => ⟨h.1, h.2.step ?_⟩⟩⟩
    exact ⟨fun i a ha => by
      rw [List.getElem?_append_left (List.getElem?_eq_some_iff.mp ha).1]
      exact ha, (Grow.write (ρ := ρ2) mu (dw0 I2 hp hz h3 hsz hne)).tup, DKeep.upd (dw0 I2 hp hz h3 hsz hne), (Grow.write (K := X.K) (ρ := ρ2) mu (dw0 I2 hp hz h3 hsz hne)).fz⟩
  · have hsz : es.size = kvs.length := by rw [Paired.length r]; exact size_of_entries h4
    have gr : Grow X.K ρ2 H2 (ρ2 ++ [p]) (upd H2 p (dO p o)) := ⟨fun i a ha => by
      rw [List.getElem?_append_left (List.getElem?_eq_some_iff.mp ha).1]
      exact ha, (Grow.write (ρ := ρ2) mu (dw0 I2 hp hz h3 hsz hne)).tup, DKeep.upd (dw0 I2 hp hz h3 hsz hne), (Grow.write (K := X.K) (ρ := ρ2) mu (dw0 I2 hp hz h3 hsz hne)).fz⟩
    exact key o es ep h1 h3 hsz ⟨h2, hl, es, ep, h3, .inr ⟨xs, h4, h6, Paired.mapP r fun p q h => ⟨h.1, h.2.1, h.2.2.1.grow gr, h.2.2.2.step gr⟩⟩⟩
theorem dput_ne (kvs : List (PV × PV)) (k v : PV) (h : kvs ≠ []) : dput kvs k v ≠ [] := by
  unfold dput
  split
  · simpa using h
  · simp
theorem merge_ne : ∀ (more kvs : List (PV × PV)), kvs ≠ [] → mergeP kvs more ≠ []
  | [], _, h => h
  | p :: r, kvs, h => merge_ne r (dput kvs p.1 p.2) (dput_ne kvs p.1 p.2 h)
theorem le_disp {pos : Pos} {keys : List (Option Expr)} {values : List Expr} {ds : List (DE × DE)} (hu : X.A.units + 9 < cLine) (h : LP X W pos keys values ds) (hall : keys.all (·.isSome) = true := by rfl) (hl : keys.length = values.length := by rfl) (h0 : keys ≠ [] := by exact fun z => nomatch z) (h15 : keys.length ≤ 15 := by decide) :
    LE X W (.Dict keys values pos) (dDisp ds) := ⟨fun pins s σ H Q I ⟨ρ, η, μ, en, t, q⟩ => by
  have hn : H s.heap.objs.size = none := I.hok.fresh (Nat.le_refl _)
  have I1 : Inv X pins σ (upd H s.heap.objs.size (dO s.heap.objs.size { cls := .type "dict", data := .dict #[] })) { s with heap := s.heap.push { cls := .type "dict", data := .dict #[] }, toks := s.toks } :=
    ext_laid I (fun _ _ q => Heap.get?_push_of_some _ q) (Nat.le_refl _) (Heap.get?_push_size _ rfl)
  have st1 : Step X.K ρ H ρ (upd H s.heap.objs.size (dO s.heap.objs.size { cls := .type "dict", data := .dict #[] })) := Step.quiet hn
  have t1 : RSt X.prog X.w X.K ρ (upd H s.heap.objs.size (dO s.heap.objs.size { cls := .type "dict", data := .dict #[] })) μ := t.quiet hn
  have np := t.fresh hn
  cases e : dPairs ds η μ with
  | bad => unfold dDisp at q; rw [e] at q; exact q.elim
  | err C v μ2 =>
    unfold dDisp at q
    rw [e] at q
    refine dict_pairsA (knd := nestedKind X.prog X.w) (show X.A.units + 8 < cLine by omega) hall hl h0 h15 (thn (h.run pins _ σ _ (fun _ _ => False) I1 (pairs_tr (W := W) (en.step st1) t1 ?_)) fun us s2 ⟨vs, H2, I2, rel, z⟩ => z.elim)
    rw [e]
    exact fun ρ2 H2 st2 t2 => q ρ2 H2 (st1.trans st2) t2
  | ok kvs μ2 =>
    unfold dDisp at q
    rw [e, Rz.bind_ok] at q
    by_cases c : keysOne kvs = true ∧ kvs.length ≤ 15
    · rw [if_pos c] at q
      have run : wpAny (model X.prog X.w) X.A (evalPairs (pairTrees keys values X.env pos)) (fun us s2 => ∃ vs H2 ρ2, Inv X pins σ H2 s2 ∧ VV vs us ∧ Step X.K ρ H ρ2 H2 ∧ RSt X.prog X.w X.K ρ2 H2 μ2 ∧ RPs X.K ρ2 H2 kvs vs ∧ s.heap.objs.size ∉ ρ2 ∧
          H2 s.heap.objs.size = some (dO s.heap.objs.size { cls := .type "dict", data := .dict #[] })) X.xe { s with heap := s.heap.push { cls := .type "dict", data := .dict #[] } } := by
        refine thn (h.run pins _ σ _ (fun vs H2 => ∃ ρ2, Step X.K ρ H ρ2 H2 ∧ RSt X.prog X.w X.K ρ2 H2 μ2 ∧ RPs X.K ρ2 H2 kvs vs ∧ s.heap.objs.size ∉ ρ2 ∧ H2 s.heap.objs.size = some (dO s.heap.objs.size { cls := .type "dict", data := .dict #[] })) I1 (pairs_tr (W := W) (en.step st1) t1 ?_))
          fun us s2 ⟨vs, H2, I2, rel, ρ2, a1, a2, a3, a4, a5⟩ => ⟨vs, H2, ρ2, I2, rel, a1, a2, a3, a4, a5⟩
        rw [e]
        intro ρ2 vs H2 st2 rel t2
        refine ⟨ρ2, st1.trans st2, t2, rel, fun hm => ?_, st2.keep _ _ upd_same np (fun _ z => nomatch z)⟩
        obtain ⟨more, em, fm⟩ := st2.ext
        rw [em] at hm
        rcases List.mem_append.mp hm with hm | hm
        · exact np hm
        · exact fm _ hm _ upd_same fun _ z => nomatch z
      have sys := ne_sys I (Nat.le_refl s.heap.objs.size)
      have hz : ∀ es ep, ({ cls := .type "dict", data := .dict #[] } : Obj).data = .dict es ep → es.size = 0 := fun es ep z => by cases z; rfl
      have hlen : (mergeP [] kvs).length ≤ sizeLine := by
        have := length_mergeP kvs []
        rw [List.length_nil] at this
        rw [sizeLine_eq]
        omega
      cases kvs with
      | nil => exact absurd c.1 (by decide)
      | cons z r =>
        have hne : mergeP [] (z :: r) ≠ [] := merge_ne r (dput [] z.1 z.2) (by simp [dput])
        cases ct : isTup z.1 with
        | false =>
          refine wpAny_Dict_walk (knd := mixKind X.prog X.w) hall hl h0 h15 (thn run fun us s2 ⟨vs, H2, ρ2, I2, rel, st, t2, rp, np2, hp⟩ => ?_)
          obtain ⟨rs, cr, rf⟩ := carry_flat (P := X.prog) (w := X.w) (keys_flat c.1 ct) rp rel
          refine ⟨rs, cr, ?_, fun h' dd' hs => ?_⟩
          · exact ⟨_, #[], 0, (I2.hok _ _ hp).1, ⟨rfl, rfl, rfl⟩, rfl, (fun e he => by simp at he), .nil, List.nodup_nil⟩
          · exact dict_done I2 hn st t2 np2 hp sys hlen hs hz ⟨_, _, rfl⟩ (.inl ⟨_, dd', prf_merge rf .nil⟩) hne q
        | true =>
          refine dict_pairsA (knd := nestedKind X.prog X.w) (show X.A.units + 8 < cLine by omega) hall hl h0 h15 (thn run fun us s2 ⟨vs, H2, ρ2, I2, rel, st, t2, rp, np2, hp⟩ => ?_)
          obtain ⟨xs, cr, rf⟩ := carry_nest I2 (keys_nest c.1 ct) rp rel
          refine ⟨xs, cr, ?_, fun h' tk dd' hs => ?_⟩
          · exact ⟨_, #[], 0, (I2.hok _ _ hp).1, ⟨rfl, rfl, rfl⟩, rfl, rfl, (fun x hx => by cases hx), List.nodup_nil⟩
          · exact dict_done I2 hn st t2 np2 hp sys hlen hs hz ⟨_, _, rfl⟩ (.inr ⟨_, dd', prn_merge rf .nil⟩) hne q
    · rw [if_neg c] at q
      exact q.elim⟩
end
end DL
namespace DL
open PySem PySem.Spec PyProof.Rows L2
def vOf : Value → V
  | .bool b => .bl b
  | .int i _ => .int i
  | .str x _ => .str x
  | .bytes b _ => .byt b
  | .float b _ => .flt b
  | .ref a => .ref a
  | .type n => .ty n
  | _ => .non
theorem vOf_of {x : V} {u : Value} (a : L2.RelV x u) : vOf u = x := by
  cases x with
  | non => cases a; rfl
  | bl b => cases a; rfl
  | int i => obtain ⟨t, rfl⟩ := a; rfl
  | str z => obtain ⟨t, rfl⟩ := a; rfl
  | byt z => obtain ⟨t, rfl⟩ := a; rfl
  | flt z => obtain ⟨t, rfl⟩ := a; rfl
  | ref z => cases a; rfl
  | ty z => cases a; rfl
theorem relV_uniq {x y : V} {u : Value} (a : L2.RelV x u) (b : L2.RelV y u) : x = y := (vOf_of a).symm.trans (vOf_of b)
theorem vals_uniq : ∀ {xs ys : List V} {us : List Value}, Vals xs us → Vals ys us → xs = ys
  | _, _, _, .nil, .nil => rfl
  | _, _, _, .cons a t, .cons b t' => by rw [relV_uniq a b, vals_uniq t t']
section
variable (P : Program) (w : World) (K : PySem.W.Frag) (ρ0 : List Addr) (H0 : Hp) (gd : Sto → Bool)
def gS (H : Hp) (ρ : List Addr) (μ : Sto) : Prop := Grow K ρ0 H0 ρ H ∧ RSt P w K ρ H μ ∧ gd μ = true
/-- values that stand already -/
def J1 (its : List PV) : It :=
  ⟨fun i H => (∃ ρ μ, gS P w K ρ0 H0 gd H ρ μ) ∧ i < its.length, fun i H x H' => H' = H ∧ ∀ ρ μ p, gS P w K ρ0 H0 gd H ρ μ → its[i]? = some p → RV K ρ H p x, fun i H => (∃ ρ μ, gS P w K ρ0 H0 gd H ρ μ) ∧ i = its.length⟩
/-- new tuples -/
def J2 (its : List (List PV)) : It :=
  ⟨fun i H => (∃ ρ μ, gS P w K ρ0 H0 gd H ρ μ) ∧ i < its.length, fun i H x H' => ∃ T vs, x = .ref T ∧ H T = none ∧ H' = upd H T (.tup vs) ∧ ∀ ρ μ ps, gS P w K ρ0 H0 gd H ρ μ → its[i]? = some ps → RVs K ρ H ps vs, fun i H => (∃ ρ μ, gS P w K ρ0 H0 gd H ρ μ) ∧ i = its.length⟩
theorem wk1 (its : List PV) : Wk P w K (J1 P w K ρ0 H0 gd its) ρ0 H0 its gd where
  go := fun i p ρ H μ gr t hg hp => ⟨⟨⟨ρ, μ, gr, t, hg⟩, (List.getElem?_eq_some_iff.mp hp).1⟩, fun x H' ⟨e, h⟩ => by
    subst e
    exact ⟨Step.refl, t, h ρ μ p ⟨gr, t, hg⟩ hp⟩⟩
  stop := fun ρ H μ gr t hg => ⟨⟨ρ, μ, gr, t, hg⟩, rfl⟩
theorem wk2 (its : List (List PV)) : Wk P w K (J2 P w K ρ0 H0 gd its) ρ0 H0 (its.map PV.tup) gd where
  go := fun i p ρ H μ gr t hg hp => by
    rw [List.getElem?_map] at hp
    obtain ⟨ps, hp', rfl⟩ := Option.map_eq_some_iff.mp hp
    clear hp
    have hp := hp'
    refine ⟨⟨⟨ρ, μ, gr, t, hg⟩, (List.getElem?_eq_some_iff.mp hp').1⟩, fun x H' ⟨T, vs, e1, hT, e2, h⟩ => ?_⟩
    subst e1 e2
    exact ⟨Step.quiet hT, t.quiet hT, .tup (SqT.of upd_same) ((h ρ μ ps ⟨gr, t, hg⟩ hp).step (Step.quiet hT))⟩
  stop := fun ρ H μ gr t hg => ⟨⟨ρ, μ, gr, t, hg⟩, by rw [List.length_map]⟩
end
/-- what stands in the heap, of which its are the values -/
structure Src (P : Program) (w : World) (K : PySem.W.Frag) (ρ0 : List Addr) (H0 : Hp) (gd : Sto → Bool) (its : List PV) (con : Heap → List V → Prop) : Prop where
  fn : ∀ h vs vs', con h vs → con h vs' → vs = vs'
  val : ∀ (X : Cx) (pins : List (Addr × Obj)) (σ : L2.St) (H : Hp) (s : Shared), X.prog = P → X.w = w → X.K = K → Inv X pins σ H s → ∀ ρ μ, gS P w K ρ0 H0 gd H ρ μ → ∃ vs, con s.heap vs ∧ RVs K ρ H its vs
/-- an iterator's own state, in cells of its own -/
structure Own (own : List Addr) (it : Addr) (tn : Nat → Heap → Prop) : Prop where
  mem : it ∈ own
  obj : ∀ i h, tn i h → ∀ b ∈ own, ∃ o, h.get? b = some o ∧ ∀ v, o.data ≠ .cell v
  keep : ∀ i h h', tn i h → (∀ b ∈ own, ∀ o, h.get? b = some o → h'.get? b = some o) → tn i h'
  self : ∀ (prog : Program) (w : World) (A : Around) (i : Nat) (s : Shared) (Q : Value → Shared → Prop) (E : Value → Shared → Prop), tn i s.heap → Q (.ref it) s → wpAny (model prog w) A (pyIter (.ref it)) Q E s
section
variable {P : Program} {w : World} {K : PySem.W.Frag} {ρ0 : List Addr} {H0 : Hp} {gd : Sto → Bool} {own : List Addr} {it : Addr} {tn : Nat → Heap → Prop} {tg : Expr}
/-- values that stand already -/
theorem turn1 {its : List PV} {con : Heap → List V → Prop} (S : Src P w K ρ0 H0 gd its con) (O : Own own it tn)
    (goes : ∀ (A : Around) (i : Nat) (h : Heap) (vs : List V), A.handled = none → con h vs → tn i h → (∀ b ∈ own, b < h.objs.size) → ∃ fp wr Y St, GoesN P w A tg it fp wr vs.length Y St ∧ St i h ∧ (∀ b ∈ wr, b ∈ own) ∧ (∀ j h, St j h → tn j h) ∧ ∀ j h0 v h', Y j h0 v h' → ∃ x, vs[j]? = some x ∧ L2.RelV x v) :
    Turn P w K tg (J1 P w K ρ0 H0 gd its) own it tn where
  mem := O.mem
  obj := O.obj
  keep := O.keep
  item := by
    intro X hP hw hK hc i pins s σ H E I hf st hg
    obtain ⟨⟨ρ, μ, g⟩, hlt⟩ := hg
    obtain ⟨vs, c, r⟩ := S.val X pins σ H s hP hw hK I ρ μ g
    have hl := r.length
    obtain ⟨fp, wr, Y, St, G, st1, hw1, hst, hY⟩ := goes X.A i s.heap vs (I.ok.hd hc) c st fun b hb => let ⟨o, ho, _⟩ := O.obj i _ st b hb; Heap.lt_size ho
    refine wpAny_mono (G.goes i s (fun u s2 => ∃ x H', Inv X pins σ H' s2 ∧ L2.RelV x u ∧ (J1 P w K ρ0 H0 gd its).yld i H x H' ∧ tn (i + 1) s2.heap ∧ ∀ b ∈ own, H' b = none) E (by omega) st1 fun v h' tk hy st2 hk htk => ?_) (fun _ _ q => q) fun _ _ e => e
    obtain ⟨x, hx, rx⟩ := hY i _ v h' hy
    refine ⟨x, H, I.turnedL (t' := tk) (ch := wr) hk (fun b hb => hf b (hw1 b hb)), rx, ⟨rfl, fun ρ' μ' p g' hp => ?_⟩, hst _ _ st2, fun b hb => (hf b hb).1⟩
    obtain ⟨vs', c', r'⟩ := S.val X pins σ H s hP hw hK I ρ' μ' g'
    have := S.fn _ _ _ c c'
    subst this
    obtain ⟨y, hy1, hy2⟩ := r'.get hp
    rw [hx] at hy1
    cases hy1
    exact hy2
  done := by
    intro X hP hw hK hc i pins s σ H E I hf st hg
    obtain ⟨⟨ρ, μ, g⟩, rfl⟩ := hg
    obtain ⟨vs, c, r⟩ := S.val X pins σ H s hP hw hK I ρ μ g
    obtain ⟨fp, wr, Y, St, G, st1, hw1, hst, hY⟩ := goes X.A its.length s.heap vs (I.ok.hd hc) c st fun b hb => let ⟨o, ho, _⟩ := O.obj _ _ st b hb; Heap.lt_size ho
    rw [r.length] at st1
    exact G.stops s (fun s1 => Inv X pins σ H s1) E st1 fun h' tk hk htk => I.turnedL (t' := tk) (ch := wr) hk fun b hb => hf b (hw1 b hb)
  self := fun A i s Q E st q => O.self P w A i s Q E st q
/-- new tuples of what stands in two places -/
theorem turn2 {its : List (List PV)} {con : Heap → List (List V) → Prop} (fn : ∀ h vs vs', con h vs → con h vs' → vs = vs')
    (val : ∀ (X : Cx) (pins : List (Addr × Obj)) (σ : L2.St) (H : Hp) (s : Shared), X.prog = P → X.w = w → X.K = K → Inv X pins σ H s → ∀ ρ μ, gS P w K ρ0 H0 gd H ρ μ → ∃ vs : List (List V), con s.heap vs ∧ its.length = vs.length ∧ ∀ (i : Nat) (ps : List PV), its[i]? = some ps → ∃ ws : List V, vs[i]? = some ws ∧ RVs K ρ H ps ws ∧ ws.length ≤ 3)
    (O : Own own it tn)
    (goes : ∀ (A : Around) (i : Nat) (h : Heap) (vs : List (List V)), A.handled = none → con h vs → tn i h → (∀ b ∈ own, b < h.objs.size) → ∃ fp wr Y St, GoesN P w A tg it fp wr vs.length Y St ∧ St i h ∧ (∀ b ∈ wr, b ∈ own) ∧ (∀ j h, St j h → tn j h) ∧
      ∀ j h0 v h', Y j h0 v h' → ∃ (T : Addr) (ws : List V) (us : List Value), vs[j]? = some ws ∧ v = .ref T ∧ h0.objs.size ≤ T ∧ Vals ws us ∧ h'.IsTuple T us.toArray) :
    Turn P w K tg (J2 P w K ρ0 H0 gd its) own it tn where
  mem := O.mem
  obj := O.obj
  keep := O.keep
  item := by
    intro X hP hw hK hc i pins s σ H E I hf st hg
    obtain ⟨⟨ρ, μ, g⟩, hlt⟩ := hg
    obtain ⟨vs, c, hl, r⟩ := val X pins σ H s hP hw hK I ρ μ g
    obtain ⟨fp, wr, Y, St, G, st1, hw1, hst, hY⟩ := goes X.A i s.heap vs (I.ok.hd hc) c st fun b hb => let ⟨o, ho, _⟩ := O.obj i _ st b hb; Heap.lt_size ho
    refine wpAny_mono (G.goes i s (fun u s2 => ∃ x H', Inv X pins σ H' s2 ∧ L2.RelV x u ∧ (J2 P w K ρ0 H0 gd its).yld i H x H' ∧ tn (i + 1) s2.heap ∧ ∀ b ∈ own, H' b = none) E (by omega) st1 fun v h' tk hy st2 hk htk => ?_) (fun _ _ q => q) fun _ _ e => e
    obtain ⟨T, ws, us, hx, ev, hT, rv, ht⟩ := hY i _ v h' hy
    subst ev
    have hlw : ws.length ≤ sizeLine := by
      obtain ⟨ps, hp⟩ : ∃ ps, its[i]? = some ps := ⟨its[i], List.getElem?_eq_getElem hlt⟩
      obtain ⟨ws', e1, _, e3⟩ := r i ps hp
      rw [hx] at e1
      cases e1
      exact Nat.le_trans e3 (by rw [sizeLine_eq]; omega)
    have new : ObjOk X.prog X.w (upd H T (.tup ws)) h' T (.tup ws) := ⟨hlw, us, rv, ht⟩
    refine ⟨.ref T, _, I.turnedNew (t' := tk) (ch := wr) hk (fun b hb => hf b (hw1 b hb)) hT new, rfl, ⟨T, ws, rfl, I.hok.fresh hT, rfl, fun ρ' μ' p g' hp => ?_⟩, hst _ _ st2, fun b hb => ?_⟩
    · obtain ⟨vs', c', _, r'⟩ := val X pins σ H s hP hw hK I ρ' μ' g'
      have := fn _ _ _ c c'
      subst this
      obtain ⟨y, hy1, hy2, _⟩ := r' i p hp
      rw [hx] at hy1
      cases hy1
      exact hy2
    · obtain ⟨o, ho, _⟩ := O.obj i _ st b hb
      rw [upd_ne (Nat.ne_of_lt (Nat.lt_of_lt_of_le (Heap.lt_size ho) hT))]
      exact (hf b hb).1
  done := by
    intro X hP hw hK hc i pins s σ H E I hf st hg
    obtain ⟨⟨ρ, μ, g⟩, rfl⟩ := hg
    obtain ⟨vs, c, hl, r⟩ := val X pins σ H s hP hw hK I ρ μ g
    obtain ⟨fp, wr, Y, St, G, st1, hw1, hst, hY⟩ := goes X.A its.length s.heap vs (I.ok.hd hc) c st fun b hb => let ⟨o, ho, _⟩ := O.obj _ _ st b hb; Heap.lt_size ho
    rw [hl] at st1
    exact G.stops s (fun s1 => Inv X pins σ H s1) E st1 fun h' tk hk htk => I.turnedL (t' := tk) (ch := wr) hk fun b hb => hf b (hw1 b hb)
  self := fun A i s Q E st q => O.self P w A i s Q E st q
end
end DL
namespace DL
open PySem PySem.Spec PyProof.Rows L2
def signs (z : Str) : List PV := z.cps.toList.map fun c => PV.str ⟨#[c]⟩
def sameSeq (μ : Sto) (i : Nat) (ps : List PV) : Bool := match seqAt μ i with
  | some qs => PV.beqs qs ps
  | none => false
def sameKvs : List (PV × PV) → List (PV × PV) → Bool
  | [], [] => true
  | a :: as, b :: bs => PV.beq a.1 b.1 && PV.beq a.2 b.2 && sameKvs as bs
  | _, _ => false
def sameDct (μ : Sto) (i : Nat) (ps : List (PV × PV)) : Bool := match dctAt μ i with
  | some qs => sameKvs qs ps
  | none => false
theorem sameSeq_of {μ : Sto} {i : Nat} {ps : List PV} (h : sameSeq μ i ps = true) : seqAt μ i = some ps := by
  unfold sameSeq at h
  cases e : seqAt μ i with
  | none => rw [e] at h; cases h
  | some qs => rw [e] at h; rw [PV.eqs_of qs ps h]
theorem sameKvs_of : ∀ {a b : List (PV × PV)}, sameKvs a b = true → a = b
  | [], [], _ => rfl
  | (a1, a2) :: as, (b1, b2) :: bs, h => by
    unfold sameKvs at h
    rw [Bool.and_eq_true, Bool.and_eq_true] at h
    rw [PV.eq_of a1 b1 h.1.1, PV.eq_of a2 b2 h.1.2, sameKvs_of h.2]
  | [], _ :: _, h => by cases h
  | _ :: _, [], h => by cases h
theorem sameDct_of {μ : Sto} {i : Nat} {ps : List (PV × PV)} (h : sameDct μ i ps = true) : dctAt μ i = some ps := by
  unfold sameDct at h
  cases e : dctAt μ i with
  | none => rw [e] at h; cases h
  | some qs => rw [e] at h; rw [sameKvs_of h]
/-- a tuple, a text, a list: what is walked, and what must stand at each turn -/
def srcOf (p : PV) (μ : Sto) : Option (List PV × (Sto → Bool)) := match p with
  | .tup ps => some (ps, fun _ => true)
  | .str z => some (signs z, fun _ => true)
  | .ref i => match seqAt μ i with
    | some ps => some (ps, fun μ' => sameSeq μ' i ps)
    | none => none
  | _ => none
/-- a kind of thing that is walked: its iterator when made, the cells that it reads, the iterator's state -/
structure Kd (v : Value) (con : Heap → List V → Prop) (o : Obj) (src : List Addr) (tn : Addr → Nat → Heap → Prop) : Prop where
  beg : ∀ h vs, con h vs → ∃ Hb, Begins v o Hb ∧ Hb h
  live : ∀ h vs, con h vs → ∀ b ∈ src, b < h.objs.size
  apart : ∀ h vs it i, con h vs → tn it i h → it ∉ src
  tn0 : ∀ h it, h.get? it = some o → tn it 0 h
  obj : ∀ it i h, tn it i h → ∃ o, h.get? it = some o ∧ ∀ v, o.data ≠ .cell v
  keep : ∀ it i h h', tn it i h → (∀ o, h.get? it = some o → h'.get? it = some o) → tn it i h'
  self : ∀ (prog : Program) (w : World) (A : Around) (it : Addr) (i : Nat) (s : Shared) (Q : Value → Shared → Prop) (E : Value → Shared → Prop), tn it i s.heap → Q (.ref it) s → wpAny (model prog w) A (pyIter (.ref it)) Q E s
  draws : ∀ (prog : Program) (w : World) (A : Around) it h vs, A.handled = none → con h vs → it ∉ src → ∃ (Pv : Nat → Value → Prop) (So : Heap → Prop), Draws prog w A it (it :: src) vs.length Pv (fun i h => tn it i h ∧ So h) ∧ So h ∧ ∀ i v, Pv i v → ∃ x, vs[i]? = some x ∧ L2.RelV x v
  goes : ∀ (prog : Program) (w : World) (A : Around) (tg : Expr) it h vs, A.handled = none → con h vs → it ∉ src → ∃ (Pv : Nat → Value → Prop) (So : Heap → Prop), Goes prog w A tg it (it :: src) [it] vs.length (fun i v _ => Pv i v) (fun i h => tn it i h ∧ So h) ∧ So h ∧ ∀ i v, Pv i v → ∃ x, vs[i]? = some x ∧ L2.RelV x v
def conL (a : Addr) : Heap → List V → Prop := fun h vs => ∃ us : List Value, h.IsList a us.toArray ∧ Vals vs us
def conT (a : Addr) : Heap → List V → Prop := fun h vs => ∃ us : List Value, h.IsTuple a us.toArray ∧ Vals vs us
def conS (x : Str) : Heap → List V → Prop := fun _ vs => vs = x.cps.toList.map fun c => V.str ⟨#[c]⟩
theorem vals_at {vs : List V} {us : List Value} (r : Vals vs us) {i : Nat} {v : Value} (h : us.toArray[i]? = some v) : ∃ x, vs[i]? = some x ∧ L2.RelV x v := by
  have hu : us[i]? = some v := by simpa using h
  have hl := r.length
  obtain ⟨hi, _⟩ := List.getElem?_eq_some_iff.mp hu
  obtain ⟨u, h1, h2⟩ := r.get (List.getElem?_eq_getElem (h := (by omega : i < vs.length)))
  rw [hu] at h1
  cases h1
  exact ⟨_, List.getElem?_eq_getElem (by omega), h2⟩
theorem kd_list (a : Addr) : Kd (.ref a) (conL a) { cls := .type "list_iterator", data := .fields #[.ref a, .int 0 0] } [a] (fun it i h => h.IsListIter it a i) where
  beg := fun h vs ⟨us, h1, h2⟩ => ⟨_, begins_list a us.toArray, h1⟩
  live := fun h vs ⟨us, ⟨o, h1, _⟩, h2⟩ b hb => by
    rw [List.mem_singleton.mp hb]
    exact Heap.lt_size h1
  apart := fun h vs it i ⟨us, ⟨o, h1, h2, _⟩, _⟩ ⟨o', k1, k2, _⟩ hm => by
    rw [List.mem_singleton.mp hm, h1] at k1
    cases k1
    rw [h2] at k2
    injection k2 with k2
    exact absurd k2 (by decide)
  tn0 := fun h it e => ⟨_, e, rfl, rfl⟩
  obj := fun it i h ⟨o, h1, h2, h3⟩ => ⟨o, h1, fun v z => by rw [h3] at z; cases z⟩
  keep := fun it i h h' st k => st.at k
  self := fun prog w A it i s Q E st q => wpAny_pyIter_listiter st q
  draws := fun prog w A it h vs hh ⟨us, h1, h2⟩ hn => ⟨_, _, (by rw [h2.length]; exact (Draws.list hh it a (fun e => hn (by simp [e])) us.toArray)), h1, fun i v hv => vals_at h2 hv⟩
  goes := fun prog w A tg it h vs hh ⟨us, h1, h2⟩ hn => ⟨_, _, (by rw [h2.length]; exact (Goes.list hh it a (fun e => hn (by simp [e])) us.toArray)), h1, fun i v hv => vals_at h2 hv⟩
theorem kd_tup (a : Addr) : Kd (.ref a) (conT a) { cls := .type "tuple_iterator", data := .fields #[.ref a, .int 0 0] } [a] (fun it i h => h.IsTupleIter it a i) where
  beg := fun h vs ⟨us, h1, h2⟩ => ⟨_, begins_tuple a us.toArray, h1⟩
  live := fun h vs ⟨us, ⟨o, h1, _⟩, h2⟩ b hb => by
    rw [List.mem_singleton.mp hb]
    exact Heap.lt_size h1
  apart := fun h vs it i ⟨us, ⟨o, h1, h2, _⟩, _⟩ ⟨o', k1, k2, _⟩ hm => by
    rw [List.mem_singleton.mp hm, h1] at k1
    cases k1
    rw [h2] at k2
    injection k2 with k2
    exact absurd k2 (by decide)
  tn0 := fun h it e => ⟨_, e, rfl, rfl⟩
  obj := fun it i h ⟨o, h1, h2, h3⟩ => ⟨o, h1, fun v z => by rw [h3] at z; cases z⟩
  keep := fun it i h h' st k => st.at k
  self := fun prog w A it i s Q E st q => wpAny_pyIter_tupleiter st q
  draws := fun prog w A it h vs hh ⟨us, h1, h2⟩ hn => ⟨_, _, (by rw [h2.length]; exact (Draws.tuple hh it a (fun e => hn (by simp [e])) us.toArray)), h1, fun i v hv => vals_at h2 hv⟩
  goes := fun prog w A tg it h vs hh ⟨us, h1, h2⟩ hn => ⟨_, _, (by rw [h2.length]; exact (Goes.tuple hh it a (fun e => hn (by simp [e])) us.toArray)), h1, fun i v hv => vals_at h2 hv⟩
theorem sign_at {x : Str} {i : Nat} {v : Value} (h : SignAt x i v) : ∃ y, (x.cps.toList.map fun c => V.str ⟨#[c]⟩)[i]? = some y ∧ L2.RelV y v := by
  obtain ⟨c, u, h1, rfl⟩ := h
  refine ⟨.str ⟨#[c]⟩, ?_, u, rfl⟩
  rw [List.getElem?_map]
  have : x.cps.toList[i]? = some c := by simpa using h1
  rw [this]
  rfl
theorem kd_str (x : Str) (t : Tok) : Kd (.str x t) (conS x) { cls := .type (strIterType x), data := .fields #[.str x t, .int 0 0] } [] (fun it i h => h.IsStrIter it (strIterType x) x t i) where
  beg := fun h vs _ => ⟨_, begins_text x t, trivial⟩
  live := fun h vs _ b hb => by cases hb
  apart := fun h vs it i _ _ hm => by cases hm
  tn0 := fun h it e => ⟨_, e, rfl, rfl⟩
  obj := fun it i h ⟨o, h1, h2, h3⟩ => ⟨o, h1, fun v z => by rw [h3] at z; cases z⟩
  keep := fun it i h h' ⟨o, h1, r⟩ k => ⟨o, k o h1, r⟩
  self := fun prog w A it i s Q E st q => by
    cases ha : x.cps.all (· < 128)
    · exact wpAny_pyIter_striter_wide (by simpa [strIterType, ha] using st) q
    · exact wpAny_pyIter_striter_ascii (by simpa [strIterType, ha] using st) q
  draws := fun prog w A it h vs hh e hn => ⟨_, fun _ => True, (by
    have D := Draws.text (prog := prog) (w := w) (A := A) hh it x t
    rw [show vs.length = x.cps.size by rw [show vs = _ from e]; simp]
    exact ⟨fun i h st => D.live i h st.1, fun i h h' st k => ⟨D.frame i h h' st.1 k, trivial⟩, fun i s Q E hi st hQ => D.item i s Q E hi st.1 fun y h' tk a b c => hQ y h' tk a ⟨b, trivial⟩ c, fun s Q E st hE => D.done s Q E st.1 hE⟩), trivial, fun i v hv => by rw [show vs = _ from e]; exact sign_at hv⟩
  goes := fun prog w A tg it h vs hh e hn => ⟨_, fun _ => True, (by
    have D := Goes.text (prog := prog) (w := w) (A := A) (target := tg) hh it x t
    rw [show vs.length = x.cps.size by rw [show vs = _ from e]; simp]
    exact ⟨D.sub, fun i h h' st k => ⟨D.frame i h h' st.1 k, trivial⟩, fun i s Q E hi st hQ => D.goes i s Q E hi st.1 fun y h' tk a b c d => hQ y h' tk a ⟨b, trivial⟩ c d, fun s Q E st hE => D.stops s Q E st.1 hE, fun i s Q E st q => D.self i s Q E st.1 q⟩), trivial, fun i v hv => by rw [show vs = _ from e]; exact sign_at hv⟩
/-- the values of what is walked -/
theorem src_list {P : Program} {w : World} {K : PySem.W.Frag} {ρ0 : List Addr} {H0 : Hp} {i : Nat} {a : Addr} {ps : List PV} (ha : ρ0[i]? = some a) : Src P w K ρ0 H0 (fun μ => sameSeq μ i ps) ps (conL a) where
  fn := fun h vs vs' ⟨us, ⟨o, h1, h2, n, h3⟩, h4⟩ ⟨us', ⟨o', k1, k2, n', k3⟩, k4⟩ => by
    rw [h1] at k1
    cases k1
    rw [h3] at k3
    injection k3 with e1 e2
    have e1 : us = us' := by simpa using e1
    subst e1
    exact vals_uniq h4 k4
  val := fun X pins σ H s hP hw hK I ρ μ g => by
    subst hP hw hK
    obtain ⟨gr, t, hg⟩ := g
    obtain ⟨vs, h1, h2⟩ := seqAt_of t (gr.get _ _ ha) (sameSeq_of hg)
    obtain ⟨us, r, pl, _⟩ := I.list h1
    exact ⟨vs, ⟨us, pl.isList, r⟩, h2⟩
theorem src_tup {P : Program} {w : World} {K : PySem.W.Frag} {ρ0 : List Addr} {H0 : Hp} {a : Addr} {ps : List PV} {vs : List V} (h1 : SqT K H0 a vs) (h2 : RVs K ρ0 H0 ps vs) : Src P w K ρ0 H0 (fun _ => true) ps (conT a) where
  fn := fun h vs vs' ⟨us, ⟨o, h1, h2, n, h3⟩, h4⟩ ⟨us', ⟨o', k1, k2, n', k3⟩, k4⟩ => by
    rw [h1] at k1
    cases k1
    rw [h3] at k3
    injection k3 with e1 e2
    have e1 : us = us' := by simpa using e1
    subst e1
    exact vals_uniq h4 k4
  val := fun X pins σ H s hP hw hK I ρ μ g => by
    subst hP hw hK
    obtain ⟨gr, t, hg⟩ := g
    obtain ⟨us, r, pl, _⟩ := I.tuple (gr.tup _ _ h1)
    exact ⟨vs, ⟨us, pl, r⟩, h2.grow gr⟩
theorem signs_rel {K : PySem.W.Frag} {ρ : List Addr} {H : Hp} : ∀ l : List Nat, RVs K ρ H (l.map fun c => PV.str ⟨#[c]⟩) (l.map fun c => V.str ⟨#[c]⟩)
  | [] => .nil
  | c :: l => .cons (.str _) (signs_rel l)
theorem src_str {P : Program} {w : World} {K : PySem.W.Frag} {ρ0 : List Addr} {H0 : Hp} {x : Str} : Src P w K ρ0 H0 (fun _ => true) (signs x) (conS x) where
  fn := fun h vs vs' e e' => by rw [show vs = _ from e, show vs' = _ from e']
  val := fun X pins σ H s hP hw hK I ρ μ g => ⟨_, rfl, signs_rel _⟩
/-- all three -/
theorem src_any {P : Program} {w : World} {K : PySem.W.Frag} {ρ : List Addr} {H : Hp} {μ : Sto} {p : PV} {x : V} {u : Value} {its : List PV} {gd : Sto → Bool} (t : RSt P w K ρ H μ) (r : RV K ρ H p x) (rx : L2.RelV x u) (h : srcOf p μ = some (its, gd)) :
    gd μ = true ∧ ∃ con o src tn, Src P w K ρ H gd its con ∧ Kd u con o src tn := by
  cases r with
  | tup h1 h2 =>
    cases h
    cases rx
    exact ⟨rfl, _, _, _, _, src_tup h1 h2, kd_tup _⟩
  | str z =>
    cases h
    obtain ⟨tk, rfl⟩ := rx
    exact ⟨rfl, _, _, _, _, src_str, kd_str z tk⟩
  | @ref i a ha =>
    have h : (match seqAt μ i with | some ps => some (ps, fun μ' => sameSeq μ' i ps) | none => none) = some (its, gd) := h
    cases e : seqAt μ i with
    | none => rw [e] at h; cases h
    | some ps =>
      rw [e] at h
      cases h
      cases rx
      refine ⟨?_, _, _, _, _, src_list ha, kd_list a⟩
      show sameSeq μ i its = true
      unfold sameSeq
      rw [e]
      exact PV.beqs_self its
  | _ => cases h
end DL
namespace DL
open PySem PySem.Spec PyProof.Rows L2
section
variable {X : Cx} {W : EW}
theorem own_one {v : Value} {con : Heap → List V → Prop} {o : Obj} {src : List Addr} {tn : Addr → Nat → Heap → Prop} (k : Kd v con o src tn) (it : Addr) : Own [it] it (tn it) where
  mem := by simp
  obj := fun i h st b hb => by
    rw [List.mem_singleton.mp hb]
    exact k.obj it i h st
  keep := fun i h h' st kp => k.keep it i h h' st (kp it (by simp))
  self := fun prog w A i s Q E st q => k.self prog w A it i s Q E st q
theorem goes_one {P : Program} {w : World} {A : Around} {tg : Expr} {v : Value} {con : Heap → List V → Prop} {o : Obj} {src : List Addr} {tn : Addr → Nat → Heap → Prop} (k : Kd v con o src tn) (it : Addr) (i : Nat) (h : Heap) (vs : List V) (hh : A.handled = none) (c : con h vs) (st : tn it i h) :
    ∃ fp wr Y St, GoesN P w A tg it fp wr vs.length Y St ∧ St i h ∧ (∀ b ∈ wr, b ∈ [it]) ∧ (∀ j h, St j h → tn it j h) ∧ ∀ j h0 v h', Y j h0 v h' → ∃ x, vs[j]? = some x ∧ L2.RelV x v := by
  obtain ⟨Pv, So, G, hs, hv⟩ := k.goes P w A tg it h vs hh c (k.apart h vs it i c st)
  exact ⟨_, _, _, _, G.toN, ⟨st, hs⟩, fun b hb => hb, fun j h z => z.1, fun j h0 v h' z => hv j v z⟩
theorem meets_enum1 {v : Value} {o : Obj} {Hb : Heap → Prop} (B : Begins v o Hb) :
    Meets (Builtin.«enumerate.__new__» ⟨[.type "enumerate", v], []⟩) (fun _ R s => Hb s.heap ∧ R (.ok (.ret (.ref (s.heap.push o).objs.size))) { s with heap := (s.heap.push o).push { cls := .type "enumerate", data := .fields #[.none, .bool false, .ref s.heap.objs.size, rawInt 0, .none, .none] } }) :=
  .of_wp fun prog w A R s h => by
    obtain ⟨hp, g, d, tk, os⟩ := s
    obtain ⟨h1, h⟩ := h
    have hsub := sub_enumerate
    have qq : ∀ {A' : Around} {E : Value → Shared → Prop} {Q : Value → Shared → Prop}, Q (.ref hp.objs.size) ⟨hp.push o, g, d, tk, os⟩ → wpAny (model prog w) A' (pyIter v) Q E ⟨hp, g, d, tk, os⟩ := fun q => B.iter prog w _ _ ⟨hp, g, d, tk, os⟩ _ h1 q
    wp_walk using qq
    refine wpAny_stack_any fun st => wpAny_pure ?_
    split
    · rename_i c _ _ _ _ _
      cases (c == Value.type "enumerate") <;> (wp_walk using qq; exact ⟨_, rfl, h⟩)
    · wp_walk using qq
      exact ⟨_, rfl, h⟩
theorem enum1_begins {prog : Program} {w : World} {A : Around} {E : Value → Shared → Prop} {s : Shared} {v : Value} {o : Obj} {Hb : Heap → Prop} {Q : Value → Shared → Prop} (B : Begins v o Hb) (h1 : Hb s.heap)
    (h : ∀ h', IsEnum h' (s.heap.objs.size + 1) s.heap.objs.size 0 .none → h'.get? s.heap.objs.size = some o → (∀ b o, s.heap.get? b = some o → h'.get? b = some o) → Q (.ref (s.heap.objs.size + 1)) { s with heap := h' }) :
    wpAny (model prog w) A (call (.type "enumerate") [v]) Q E s := by
  have hz : (s.heap.push o).objs.size = s.heap.objs.size + 1 := Heap.size_push ..
  have he : IsEnum ((s.heap.push o).push { cls := .type "enumerate", data := .fields #[.none, .bool false, .ref s.heap.objs.size, rawInt 0, .none, .none] }) (s.heap.objs.size + 1) s.heap.objs.size 0 .none := by
    have z := Heap.get?_push_size (s.heap.push o) (o := { cls := .type "enumerate", data := .fields #[.none, .bool false, .ref s.heap.objs.size, rawInt 0, .none, .none] }) rfl
    rw [hz] at z
    exact z
  refine callType_new F.called_enumerate (by decide) (F.typeCall_enumerate_1 _) (F.newCall_enumerate_1 _) (fun obj => F.args_object_init_2 obj _) F.entry_enumerate_new (meets_enum1 B) ⟨h1, ?_⟩
  rw [hz]
  exact ⟨⟨_, he, rfl⟩, h _ he (Heap.get?_push_of_some _ (Heap.get?_push_size _ B.free)) fun b o x => Heap.get?_push_of_some _ (Heap.get?_push_of_some _ x)⟩
def enum2 : List PV → Nat → List (List PV)
  | [], _ => []
  | p :: r, n => [.int n, p] :: enum2 r (n + 1)
theorem enum2_length : ∀ (its : List PV) (n : Nat), (enum2 its n).length = its.length
  | [], _ => rfl
  | p :: r, n => by rw [enum2, List.length_cons, List.length_cons, enum2_length r]
theorem enum2_get : ∀ (its : List PV) (n i : Nat) {ps : List PV}, (enum2 its n)[i]? = some ps → ∃ p, its[i]? = some p ∧ ps = [.int ((n + i : Nat) : Int), p]
  | [], _, _, _, h => by simp [enum2] at h
  | p :: r, n, 0, ps, h => by
    simp [enum2] at h
    exact ⟨p, rfl, by rw [← h]; rfl⟩
  | p :: r, n, i + 1, ps, h => by
    obtain ⟨q, h1, h2⟩ := enum2_get r (n + 1) i (ps := ps) (by simpa [enum2] using h)
    exact ⟨q, by simpa using h1, by rw [h2, show n + 1 + i = n + (i + 1) by omega]⟩
def enumV (vs : List V) : List (List V) := vs.zipIdx.map fun x => [.int (x.2 : Int), x.1]
theorem enumV_get {vs : List V} {i : Nat} {x : V} (h : vs[i]? = some x) : (enumV vs)[i]? = some [.int (i : Int), x] := by
  unfold enumV
  rw [List.getElem?_map, List.getElem?_zipIdx, h]
  simp
theorem enumV_length (vs : List V) : (enumV vs).length = vs.length := by simp [enumV]
def dEnum (d : DE) : DI := fun η μ => (d η μ).bind fun p μ1 => match srcOf p μ1 with
  | some x => .ok ((enum2 x.1 0).map PV.tup, x.2) μ1
  | none => .bad
theorem own_enum {v : Value} {con : Heap → List V → Prop} {o : Obj} {src : List Addr} {tn : Addr → Nat → Heap → Prop} (k : Kd v con o src tn) (e it : Addr) : Own [e, it] e (fun i h => (∃ old, IsEnum h e it (0 + (i : Int)) old) ∧ tn it i h) where
  mem := by simp
  obj := fun i h st b hb => by
    obtain ⟨⟨old, he⟩, h2⟩ := st
    have hb : b = e ∨ b = it := by simpa using hb
    rcases hb with e1 | e1
    · rw [e1]; exact ⟨_, he, fun v z => nomatch z⟩
    · rw [e1]; exact k.obj it i h h2
  keep := fun i h h' st kp => by
    obtain ⟨⟨old, he⟩, h2⟩ := st
    exact ⟨⟨old, kp e (by simp) _ he⟩, k.keep it i h h' h2 (kp it (by simp))⟩
  self := fun prog w A i s Q E st q => by
    obtain ⟨⟨old, he⟩, h2⟩ := st
    exact wpAny_pyIter_enum he q
theorem li_enum {e : Expr} {d : DE} {p pos tpos : Pos} {elts : List Expr} {kk : Nat} (hg : Gl X "enumerate") (hm : X.mg "enumerate" = none) (h : LE X W e d) (hs : starEach [e] X.env = (false, eval e X.env) :: starEach [] X.env := by rfl) :
    LI X W (.Tuple elts kk tpos) (.Call (.Name "enumerate" p) [e] [] pos) (dEnum d) := ⟨fun pins s σ H R I ⟨ρ, η, μ, en, t, q⟩ => by
  have ha : LA X W [e] (dCons d dNil) := la_cons h la_nil hs
  refine Call_ (ld_blt I hg hm boot_enumerate (PyProof.Rows.callWith_type1 (thn (ha.run pos pins s σ H (fun vs H1 => ∃ x ρ1 p μ1, vs = [x] ∧ RV X.K ρ1 H1 p x ∧ RSt X.prog X.w X.K ρ1 H1 μ1 ∧
    Post X.prog X.w X.K W ρ1 H1 (match srcOf p μ1 with | some x => .ok ((enum2 x.1 0).map PV.tup, x.2) μ1 | none => .bad) (RI X.prog X.w X.K) R) I ⟨ρ, η, μ, en, t, ?_⟩) fun us s1 ⟨vs, H1, I1, r1, x, ρ1, p, μ1, ev, r, t1, q1⟩ => ?_) hs rfl))
  · unfold dCons dNil
    unfold dEnum at q
    cases e1 : d η μ with
    | ok pv μ1 =>
      rw [e1] at q
      intro ρ1 vs H1 st rv t1
      have rv : RVs X.K ρ1 H1 [pv] vs := rv
      cases rv with
      | cons r1 r2 =>
        cases r2
        exact ⟨_, ρ1, pv, μ1, rfl, r1, t1, Post.step st q⟩
    | err C v μ1 => rw [e1] at q; exact q
    | bad => rw [e1] at q; exact q
  · subst ev
    obtain ⟨u, rfl, rx⟩ := vals1 r1
    cases e1 : srcOf p μ1 with
    | none => rw [e1] at q1; exact q1.elim
    | some z =>
      obtain ⟨its, gd⟩ := z
      rw [e1] at q1
      obtain ⟨hgd, con, o, src, tn, S, k⟩ := src_any t1 r rx e1
      obtain ⟨vs, c, rv⟩ := S.val X pins σ H1 s1 rfl rfl rfl I1 ρ1 μ1 ⟨Step.refl.grow, t1, hgd⟩
      obtain ⟨Hb, B, hb⟩ := k.beg _ _ c
      have hsrc := k.live _ _ c
      refine enum1_begins B hb fun h' he ho hk => wpAny_pyIter_enum he ?_
      refine ⟨s1.heap.objs.size + 1, [s1.heap.objs.size + 1, s1.heap.objs.size], (fun i h => (∃ old, IsEnum h (s1.heap.objs.size + 1) s1.heap.objs.size (0 + (i : Int)) old) ∧ tn s1.heap.objs.size i h), J2 X.prog X.w X.K ρ1 H1 gd (enum2 its 0), H1, rfl, I1.kept (t' := s1.toks) hk, ?_, ⟨⟨Value.none, by simpa using he⟩, k.tn0 _ _ ho⟩, fun b hb => ?_, ?_⟩
      · refine turn2 (con := fun h vss => ∃ vs, con h vs ∧ vss = enumV vs) (fun h vs vs' ⟨a, a1, a2⟩ ⟨b, b1, b2⟩ => by rw [a2, b2, S.fn h a b a1 b1]) (fun X' pins' σ' H' s' hP hw hK I' ρ' μ' g => ?_) (own_enum k _ _) fun A i h vss hh cc st hlt => ?_
        · obtain ⟨vs', c', r'⟩ := S.val X' pins' σ' H' s' hP hw hK I' ρ' μ' g
          refine ⟨_, ⟨vs', c', rfl⟩, by rw [enum2_length, enumV_length, r'.length], fun i ps hp => ?_⟩
          obtain ⟨q, h1, h2⟩ := enum2_get its 0 i hp
          obtain ⟨y, h3, h4⟩ := r'.get h1
          refine ⟨_, enumV_get h3, ?_, by simp⟩
          rw [h2, Nat.zero_add]
          exact .cons (.int _) (.cons h4 .nil)
        · obtain ⟨vs', c', rfl⟩ := cc
          obtain ⟨⟨old, he'⟩, st'⟩ := st
          have ap := k.apart _ _ _ _ c' st'
          obtain ⟨Pv, So, D, hso, hv⟩ := k.draws X.prog X.w A.in1 s1.heap.objs.size h vs' hh c' ap
          have ne : s1.heap.objs.size + 1 ≠ s1.heap.objs.size := Nat.succ_ne_self _
          have nin : s1.heap.objs.size + 1 ∉ s1.heap.objs.size :: src := fun hm => by
            rcases List.mem_cons.mp hm with hm | hm
            · exact ne hm
            · have : s1.heap.objs.size + 1 < s1.heap.objs.size := hsrc _ hm
              omega
          have G := GoesN.enumFrom (elts := elts) (x1 := kk) (pos := tpos) 0 D (s1.heap.objs.size + 1) ne nin (List.mem_cons_self ..)
          rw [← enumV_length vs'] at G
          refine ⟨_, _, _, _, G, ⟨⟨old, he'⟩, st', hso⟩, fun b hb => hb, fun j h z => ⟨z.1, z.2.1⟩, fun j h0 v h' z => ?_⟩
          obtain ⟨T, tk, x, ev, hT, hp, ht⟩ := z
          obtain ⟨y, hy, ry⟩ := hv j x hp
          exact ⟨T, _, [.int (0 + (j : Int)) tk, x], enumV_get hy, ev, hT, .cons ⟨tk, by rw [Int.zero_add]⟩ (.cons ry .nil), ht⟩
      · have hb : b = s1.heap.objs.size + 1 ∨ b = s1.heap.objs.size := by simpa using hb
        have hle : s1.heap.objs.size ≤ b := by
          rcases hb with z | z
          · rw [z]; exact Nat.le_add_right _ _
          · rw [z]; exact Nat.le_refl _
        exact I1.fpOk hle (I1.hok.fresh hle)
      · exact q1 ρ1 _ H1 Step.refl (wk2 _ _ _ _ _ gd (enum2 its 0)) t1⟩
end
end DL
namespace DL
open PySem PySem.Spec PyProof.Rows L2
end DL
namespace DL
open PySem PySem.Spec PyProof.Rows L2
/-- the entries of a dict, as its pairs tell -/
theorem pairs_flat {P : Program} {w : World} {K : PySem.W.Frag} {ρ : List Addr} {H : Hp} : ∀ {es : List DictEntry} {vs : List (Key × Value)} {kvs : List (PV × PV)}, Pairs (mixKind P w) es vs → PrF K ρ H kvs vs →
    ∃ ws : List (V × V), Paired (fun w e => L2.RelV w.1 e.key ∧ L2.RelV w.2 e.val) ws es ∧ RPs K ρ H kvs ws
  | [], [], [], .nil, .nil => ⟨[], .nil, .nil⟩
  | e :: es, v :: vs, p :: kvs, .cons h1 h2 t, .cons h t' => by
    obtain ⟨ws, a, b⟩ := pairs_flat t t'
    obtain ⟨y, y1, y2⟩ := h.2
    refine ⟨(kV v.1, y) :: ws, .cons ⟨relV_key (show keyIs v.1 e.key = true from h1), h2 ▸ y1⟩ a, .cons ⟨?_, y2⟩ b⟩
    rw [h.1]
    cases v with
    | mk k u => cases k with
      | inl i => exact .int i
      | inr x => exact .str x
theorem pairs_nest {P : Program} {w : World} {K : PySem.W.Frag} {ρ : List Addr} {H : Hp} : ∀ {xs : List (NestedKey × Addr × Value)} {kvs : List (PV × PV)}, PrN K ρ H kvs xs →
    ∃ ws : List (V × V), Paired (fun w e => L2.RelV w.1 e.key ∧ L2.RelV w.2 e.val) ws (xs.map (entryOfKey (nestedKind P w))) ∧ RPs K ρ H kvs ws
  | [], [], .nil => ⟨[], .nil, .nil⟩
  | x :: xs, p :: kvs, .cons h t => by
    obtain ⟨ws, a, b⟩ := pairs_nest (P := P) (w := w) t
    obtain ⟨y, y1, y2⟩ := h.2.2.2
    exact ⟨(.ref x.2.1, y) :: ws, .cons ⟨rfl, y1⟩ a, .cons ⟨h.2.2.1, y2⟩ b⟩
theorem dobj_pairs {P : Program} {w : World} {K : PySem.W.Frag} {ρ : List Addr} {H : Hp} {o : Obj} {kvs : List (PV × PV)} (D : DObj P w K ρ H o kvs) {es : Array DictEntry} {ep : Nat} (hd : o.data = .dict es ep) :
    ∃ ws : List (V × V), Paired (fun w e => L2.RelV w.1 e.key ∧ L2.RelV w.2 e.val) ws es.toList ∧ RPs K ρ H kvs ws := by
  obtain ⟨ex, hl, es', ep', h1, h2⟩ := D
  rw [hd] at h1
  injection h1 with e1 e2
  subst e1
  rcases h2 with ⟨vs, a, b, c, d⟩ | ⟨xs, a, b, d⟩
  · exact pairs_flat b d
  · obtain ⟨ws, h3, h4⟩ := pairs_nest (P := P) (w := w) d
    rw [a]
    exact ⟨ws, h3, h4⟩
/-- the dict at a stands so, and its entries have these values -/
def conD (a : Addr) (ep n : Nat) : Heap → List (V × V) → Prop := fun h ws => ∃ es, h.DictRaw a es ep ∧ es.size = n ∧ Paired (fun (w : V × V) (e : DictEntry) => L2.RelV w.1 e.key ∧ L2.RelV w.2 e.val) ws es.toList
theorem paired_uniq {ws : List (V × V)} {es : List DictEntry} (x : Paired (fun (w : V × V) (e : DictEntry) => L2.RelV w.1 e.key ∧ L2.RelV w.2 e.val) ws es) : ∀ {ws' : List (V × V)}, Paired (fun (w : V × V) (e : DictEntry) => L2.RelV w.1 e.key ∧ L2.RelV w.2 e.val) ws' es → ws = ws' := by
  induction x with
  | nil => intro ws' y; cases y; rfl
  | @cons p e ps es h t ih =>
    intro ws' y
    cases y with
    | @cons p' _ ps' _ h' t' =>
      rw [ih t']
      obtain ⟨p1, p2⟩ := p
      obtain ⟨q1, q2⟩ := p'
      have e1 : p1 = q1 := relV_uniq h.1 h'.1
      have e2 : p2 = q2 := relV_uniq h.2 h'.2
      rw [e1, e2]
theorem conD_fn {a : Addr} {ep n : Nat} {h : Heap} {ws ws' : List (V × V)} (x : conD a ep n h ws) (y : conD a ep n h ws') : ws = ws' := by
  obtain ⟨es, ⟨o, h1, h2, h3⟩, _, h4⟩ := x
  obtain ⟨es', ⟨o', k1, k2, k3⟩, _, k4⟩ := y
  rw [h1] at k1
  cases k1
  rw [h3] at k3
  injection k3 with e1 e2
  subst e1
  exact paired_uniq h4 k4
/-- from the start on -/
theorem conD_val {P : Program} {w : World} {K : PySem.W.Frag} {ρ0 : List Addr} {H0 : Hp} {μ0 : Sto} {i : Nat} {a : Addr} {kvs : List (PV × PV)} {X0 : Cx} {pins0 : List (Addr × Obj)} {σ0 : L2.St} {s0 : Shared} (hP0 : X0.prog = P) (hw0 : X0.w = w) (hK0 : X0.K = K)
    (I0 : Inv X0 pins0 σ0 H0 s0) (t0 : RSt P w K ρ0 H0 μ0) (ha : ρ0[i]? = some a) (e0 : μ0[i]? = some (.dct kvs)) :
    ∃ ep, ∀ (X : Cx) (pins : List (Addr × Obj)) (σ : L2.St) (H : Hp) (s : Shared), X.prog = P → X.w = w → X.K = K → Inv X pins σ H s → ∀ ρ μ, gS P w K ρ0 H0 (fun μ => sameDct μ i kvs) H ρ μ → ∃ ws, conD a ep kvs.length s.heap ws ∧ RPs K ρ H kvs ws := by
  subst hP0 hw0 hK0
  obtain ⟨o0, k1, k2, D0⟩ := t0.obj i a _ ha e0
  have g0 : s0.heap.get? a = some o0 := (I0.hok a _ k1).1
  have D0' := D0
  obtain ⟨ex, hl, es0, ep0, hd0, _⟩ := D0'
  refine ⟨ep0, fun X pins σ H s hP hw hK I ρ μ g => ?_⟩
  obtain ⟨gr, t, hg⟩ := g
  obtain ⟨o2, m1, m2, D2⟩ := t.obj i a _ (gr.get _ _ ha) (dctAt_get (sameDct_of hg))
  have g2 : s.heap.get? a = some o2 := (I.hok a _ m1).1
  obtain ⟨o', es', ep', n1, n2, n3, n4⟩ := gr.dct a o0 es0 ep0 k1 hd0
  have g3 : s.heap.get? a = some o' := (I.hok a _ n1).1
  rw [g2] at g3
  cases g3
  obtain ⟨ws0, w1, w2⟩ := dobj_pairs D0 hd0
  obtain ⟨ws, w3, w4⟩ := dobj_pairs D2 n2
  have l0 : es0.size = kvs.length := by rw [← Array.length_toList, ← Paired.length w1, Paired.length w2]
  have l2 : es'.size = kvs.length := by rw [← Array.length_toList, ← Paired.length w3, Paired.length w4]
  have := n4 (by omega)
  subst this
  exact ⟨ws, ⟨es', ⟨o2, g2, D2.1, n2⟩, l2, w3⟩, w4⟩
theorem paired_at {ws : List (V × V)} {es : Array DictEntry} (x : Paired (fun (w : V × V) (e : DictEntry) => L2.RelV w.1 e.key ∧ L2.RelV w.2 e.val) ws es.toList) {i : Nat} (hi : i < es.size) : ∃ y, ws[i]? = some y ∧ L2.RelV y.1 es[i].key ∧ L2.RelV y.2 es[i].val := by
  have hl : ws.length = es.size := by rw [Paired.length x, Array.length_toList]
  have hw : i < ws.length := by omega
  obtain ⟨e, h1, h2⟩ := paired_get x (List.getElem?_eq_getElem hw)
  have : es.toList[i]? = some es[i] := by simp [hi]
  rw [this] at h1
  cases h1
  exact ⟨_, List.getElem?_eq_getElem hw, h2⟩
theorem rps_fst {K : PySem.W.Frag} {ρ : List Addr} {H : Hp} : ∀ {kvs : List (PV × PV)} {ws : List (V × V)}, RPs K ρ H kvs ws → RVs K ρ H (kvs.map (·.1)) (ws.map (·.1))
  | [], [], .nil => .nil
  | _ :: _, _ :: _, .cons h t => .cons h.1 (rps_fst t)
theorem same_self {μ : Sto} {i : Nat} {kvs : List (PV × PV)} (h : dctAt μ i = some kvs) : sameDct μ i kvs = true := by
  unfold sameDct
  rw [h]
  show sameKvs kvs kvs = true
  clear h
  induction kvs with
  | nil => rfl
  | cons a r ih => obtain ⟨a1, a2⟩ := a; unfold sameKvs; rw [PV.beq_self, PV.beq_self, ih]; rfl
def srcK (p : PV) (μ : Sto) : Option (List PV × (Sto → Bool)) := match p with
  | .ref i => match dctAt μ i with
    | some kvs => some (kvs.map (·.1), fun μ' => sameDct μ' i kvs)
    | none => srcOf p μ
  | _ => srcOf p μ
def dItA (d : DE) : DI := fun η μ => (d η μ).bind fun p μ1 => match srcK p μ1 with
  | some x => .ok x μ1
  | none => .bad
section
variable {X : Cx} {W : EW} {pins : List (Addr × Obj)} {σ : L2.St} {H : Hp} {s : Shared} {ρ : List Addr} {μ : Sto} {i : Nat} {a : Addr} {kvs : List (PV × PV)} {tg : Expr}
theorem goesN_n {P : Program} {w : World} {A : Around} {it : Addr} {fp wr : List Addr} {n m : Nat} {Y : Nat → Heap → Value → Heap → Prop} {St : Nat → Heap → Prop} (e : n = m) (G : GoesN P w A tg it fp wr n Y St) : GoesN P w A tg it fp wr m Y St := e ▸ G
/-- the dict at its start: its raw entries with the count of changes that stays -/
theorem conD_here (I : Inv X pins σ H s) (t : RSt X.prog X.w X.K ρ H μ) (ha : ρ[i]? = some a) (e : dctAt μ i = some kvs) :
    ∃ es ep, s.heap.DictRaw a es ep ∧ es.size = kvs.length ∧ ∀ (X1 : Cx) (pins : List (Addr × Obj)) (σ : L2.St) (H1 : Hp) (s : Shared), X1.prog = X.prog → X1.w = X.w → X1.K = X.K → Inv X1 pins σ H1 s → ∀ ρ1 μ, gS X.prog X.w X.K ρ H (fun μ => sameDct μ i kvs) H1 ρ1 μ → ∃ ws, conD a ep kvs.length s.heap ws ∧ RPs X.K ρ1 H1 kvs ws := by
  obtain ⟨ep, hc⟩ := conD_val (X0 := X) rfl rfl rfl I t ha (dctAt_get e)
  obtain ⟨ws, ⟨es, h1, h2, h3⟩, h4⟩ := hc X pins σ H s rfl rfl rfl I ρ μ ⟨Step.refl.grow, t, same_self e⟩
  exact ⟨es, ep, h1, h2, hc⟩
theorem ne_iter {h : Heap} {it : Addr} {es : Array DictEntry} {ep : Nat} (hr : h.DictRaw a es ep) {o : Obj} (ho : h.get? it = some o) (hc : o.cls ≠ .type "dict") : a ≠ it := by
  obtain ⟨o', h1, h2, _⟩ := hr
  rintro rfl
  rw [h1] at ho
  cases ho
  exact hc h2.1
theorem keys_turn {ep : Nat} (hc : ∀ (X1 : Cx) (pins : List (Addr × Obj)) (σ : L2.St) (H1 : Hp) (s : Shared), X1.prog = X.prog → X1.w = X.w → X1.K = X.K → Inv X1 pins σ H1 s → ∀ ρ1 μ, gS X.prog X.w X.K ρ H (fun μ => sameDct μ i kvs) H1 ρ1 μ → ∃ ws, conD a ep kvs.length s.heap ws ∧ RPs X.K ρ1 H1 kvs ws) (it : Addr) :
    Turn X.prog X.w X.K tg (J1 X.prog X.w X.K ρ H (fun μ => sameDct μ i kvs) (kvs.map (·.1))) [it] it (fun j h => h.IsKeyIter it a j kvs.length ep) := by
  refine turn1 (con := fun h vs => ∃ ws, conD a ep kvs.length h ws ∧ vs = ws.map (·.1)) ⟨fun h vs vs' ⟨x, x1, x2⟩ ⟨y, y1, y2⟩ => by rw [x2, y2, conD_fn x1 y1], fun X1 pins σ H1 s hP hw hK I ρ1 μ g => ?_⟩ ⟨by simp, fun j h ⟨o, h1, h2, h3⟩ b hb => ?_, fun j h h' st kp => st.at fun o e => kp it (by simp) o e, fun prog w A j s Q E st q => wpAny_pyIter_keyiter st q⟩ fun A j h vs hh c st hlt => ?_
  · obtain ⟨ws, c, r⟩ := hc X1 pins σ H1 s hP hw hK I ρ1 μ g
    exact ⟨_, ⟨ws, c, rfl⟩, rps_fst r⟩
  · rw [List.mem_singleton.mp hb]
    exact ⟨o, h1, fun v z => by rw [h3] at z; cases z⟩
  · obtain ⟨ws, ⟨es, hr, hsz, hp⟩, rfl⟩ := c
    have hl : (ws.map (·.1)).length = es.size := by rw [List.length_map, Paired.length hp, Array.length_toList]
    have hne : a ≠ it := by
      obtain ⟨o, h1, h2, h3⟩ := st
      exact ne_iter hr h1 (by rw [h2]; exact fun z => by injection z with z; exact absurd z (by decide))
    have G0 := (Goes.rawKeys (prog := X.prog) (w := X.w) (A := A) (target := tg) hh it a hne es ep).toN
    have G := goesN_n hl.symm G0
    refine ⟨_, _, _, _, G, ⟨by rw [hsz]; exact st, hr⟩, fun b hb => hb, fun j h z => by have := z.1; rw [hsz] at this; exact this, fun j h0 v h' ⟨hi, e⟩ => ?_⟩
    subst e
    obtain ⟨y, h1, h2, h3⟩ := paired_at hp hi
    exact ⟨y.1, by rw [List.getElem?_map, h1]; rfl, h2⟩
end
end DL
namespace DL
open PySem PySem.Spec PyProof.Rows L2
section
variable {X : Cx} {W : EW}
theorem li_itA {tg e : Expr} {d : DE} (h : LE X W e d) : LI X W tg e (dItA d) := ⟨fun pins s σ H R I ⟨ρ, η, μ, en, t, q⟩ => by
  refine thn (h.run pins s σ H (fun x H1 => ∃ ρ1 p μ1, RV X.K ρ1 H1 p x ∧ RSt X.prog X.w X.K ρ1 H1 μ1 ∧ Post X.prog X.w X.K W ρ1 H1 (match srcK p μ1 with | some x => .ok x μ1 | none => .bad) (RI X.prog X.w X.K) R) I ⟨ρ, η, μ, en, t, (Post.bind q).mono fun x H1 ⟨ρ1, p, μ1, st, r, s1, q1⟩ => ⟨ρ1, p, μ1, r, s1, q1⟩⟩)
    fun u s1 ⟨x, H1, I1, rx, ρ1, p, μ1, r, t1, q1⟩ => ?_
  have plain : srcK p μ1 = srcOf p μ1 → wpAny (model X.prog X.w) X.A (pyIter u) (PIE X pins σ tg R) X.xe s1 := by
    intro e
    rw [e] at q1
    cases e1 : srcOf p μ1 with
    | none => rw [e1] at q1; exact q1.elim
    | some z =>
      obtain ⟨its, gd⟩ := z
      rw [e1] at q1
      obtain ⟨hg, con, o, src, tn, S, k⟩ := src_any t1 r rx e1
      obtain ⟨vs, c, rv⟩ := S.val X pins σ H1 s1 rfl rfl rfl I1 ρ1 μ1 ⟨Step.refl.grow, t1, hg⟩
      obtain ⟨Hb, B, hb⟩ := k.beg _ _ c
      refine B.iter _ _ _ _ _ _ hb ?_
      refine ⟨s1.heap.objs.size, [s1.heap.objs.size], tn s1.heap.objs.size, J1 X.prog X.w X.K ρ1 H1 gd its, H1, rfl, I1.kept (t' := s1.toks) fun b ob q => Heap.get?_push_of_some _ q, ?_, k.tn0 _ _ (Heap.get?_push_size _ B.free), fun b hb => ?_, ?_⟩
      · exact turn1 S (own_one k _) fun A i h vs hh c st _ => goes_one k _ i h vs hh c st
      · rw [List.mem_singleton.mp hb]
        exact I1.fpOk (Nat.le_refl _) (I1.hok.fresh (Nat.le_refl _))
      · exact q1 ρ1 _ H1 Step.refl (wk1 _ _ _ _ _ gd its) t1
  cases r with
  | @ref i a ha =>
    cases e : dctAt μ1 i with
    | none => exact plain (show (match dctAt μ1 i with | some kvs => _ | none => _) = _ by rw [e])
    | some kvs =>
      have q1 : Post X.prog X.w X.K W ρ1 H1 (match (match dctAt μ1 i with | some kvs => some (kvs.map (·.1), fun μ' => sameDct μ' i kvs) | none => srcOf (.ref i) μ1) with | some x => .ok x μ1 | none => .bad) (RI X.prog X.w X.K) R := q1
      rw [e] at q1
      obtain rfl : u = Value.ref a := rx
      obtain ⟨es, ep, hr, hsz, hc⟩ := conD_here I1 t1 ha e
      have D := dis_of I1 t1 ha (dctAt_get e)
      refine wpAny_pyIter_dict_raw D.sys hr (pi_one (tk := s1.toks) I1 _ (keys_turn hc _) ⟨_, Heap.get?_push_size _ rfl, rfl, by rw [hsz]; rfl⟩ ?_)
      exact q1 ρ1 _ H1 Step.refl (wk1 _ _ _ _ _ _ _) t1
  | _ => exact plain rfl⟩
theorem le_lc {elt tg iter : Expr} {ifs : List Expr} {scope : Scope} {own : List (Str × Nat)} {pos : Pos} {di : DI} {g : DG} {tt : DT} {d : DE} {js : List Nat} (hc : X.calm = true) (hN : X.N.Nodup) (hi : LI X W tg iter di) (ok : BlkOk X.N X.env.scope scope own)
    (hg : ∀ (s : Shared) (H : Hp) (C : Addr) (cl : List (Str × Addr)) (fp : List Addr), LG (X.blk s H scope (compEnvC scope cl C X.env) fp) EW0 js tg g) (ht : ∀ (s : Shared) (H : Hp) (C : Addr) (cl : List (Str × Addr)) (fp : List Addr), LTs (X.blk s H scope (compEnvC scope cl C X.env) fp) EW0 ifs tt)
    (he : ∀ (s : Shared) (H : Hp) (C : Addr) (cl : List (Str × Addr)) (fp : List Addr), LE (X.blk s H scope (compEnvC scope cl C X.env) fp) EW0 elt d) (hj : ∀ i ∈ js, i ∈ own.map (·.2)) (hs : ∀ x, foldedSetIterable iter X.env x = pure x := by intro _; rfl) :
    LE X W (.ListComp elt [⟨tg, iter, ifs, 0⟩] scope pos) (dLc di g tt d (own.map (·.2))) := (pe_lc hc hN hi ok hg ht he hs).impD fun σ H Q h => lc_of hj h
theorem Grow.trans {K : PySem.W.Frag} {ρ ρ1 ρ2 : List Addr} {H H1 H2 : Hp} (a : Grow K ρ H ρ1 H1) (b : Grow K ρ1 H1 ρ2 H2) : Grow K ρ H ρ2 H2 := ⟨fun i x h => b.get i x (a.get i x h), fun c xs h => b.tup c xs (a.tup c xs h), a.dct.trans b.dct, fun c o u h => b.fz c o u (a.fz c o u h)⟩
theorem lcGo_cons {gd : Sto → Bool} {g : DG} {tt : DT} {el : Env' → Sto → List PV → Rz (List PV)} {η : Env'} {acc rest : List PV} {p : PV} {μ : Sto} : lcGo gd g tt el η (p :: rest) acc μ = if gd μ = true then (calmR (g p η μ)).bind fun η1 μ1 => (calmR (tt η1 μ1)).bind fun k μ2 =>
      if k = true then (calmR (el η1 μ2 acc)).bind fun acc' μ3 => lcGo gd g tt el η rest acc' μ3
      else lcGo gd g tt el η rest acc μ2
    else .bad := rfl
end
end DL
namespace DL
open PySem PySem.Spec PyProof.Rows L2
end DL
namespace DL
open PySem PySem.Spec PyProof.Rows L2
section
variable {P : Program} {w : World} {κ : Type} [DecidableEq κ] (knd : HeapKind P w κ)
/-- the set's rows: each key by its hash and its address -/
def gRows (L : List (Addr × κ)) : List (Int × Value) := L.map fun p => (knd.hash p.2, Value.ref p.1)
/-- at a stands the set of the keys L (below 64), in a table that finds each of them again -/
structure SetG (h : Heap) (a : Addr) (L : List (Addr × κ)) (es : Array (Int × Value)) (ep : Nat) (t : SetTable) : Prop where
  obj : ∃ o, h.get? a = some o ∧ o.ExactSet ∧ o.data = .set es ep t
  rows : es.toList = gRows knd L
  tab : TabOk t (L.map fun p => knd.hash p.2)
  dif : (L.map (·.2)).Nodup
  keys : ∀ p ∈ L, knd.is h p.2 p.1
  led : w.params.followText "set-order" = true ∨ t.led = true
  room : L.length * 5 < t.mask * 3
  few : L.length < 64
end
section
variable {P : Program} {w : World} {κ : Type} [DecidableEq κ] {knd : HeapKind P w κ} {A : Around} {E : Value → Shared → Prop} {s : Shared} {a x : Addr} {k : κ} {L : List (Addr × κ)} {es : Array (Int × Value)} {ep : Nat} {t : SetTable}
theorem gRows_length {L : List (Addr × κ)} {l : List (Int × Value)} (e : l = gRows knd L) : l.length = L.length := by rw [e, gRows, List.length_map]
theorem SetG.size {h : Heap} (R : SetG knd h a L es ep t) : es.size = L.length := by rw [← Array.length_toList]; exact gRows_length R.rows
theorem SetG.at {h : Heap} (R : SetG knd h a L es ep t) {i : Nat} {p : Addr × κ} (e : L[i]? = some p) : es[i]? = some (knd.hash p.2, Value.ref p.1) := by
  rw [← Array.getElem?_toList, R.rows, gRows, List.getElem?_map, e]
  rfl
end
end DL
namespace DL
open PySem PySem.Spec PyProof.Rows L2
end DL
namespace DL
open PySem PySem.Spec PyProof.Rows L2
section
variable {P : Program} {w : World} {κ : Type} [DecidableEq κ] {knd : HeapKind P w κ} {A : Around} {E : Value → Shared → Prop} {s : Shared}
theorem SetG.keep {h h' : Heap} {a : Addr} {L : List (Addr × κ)} {es : Array (Int × Value)} {ep : Nat} {t : SetTable} (R : SetG knd h a L es ep t) (ha : ∀ o, h.get? a = some o → h'.get? a = some o) (ht : ∀ p ∈ L, knd.is h' p.2 p.1) : SetG knd h' a L es ep t :=
  let ⟨o, ho, r⟩ := R.obj
  ⟨⟨o, ha o ho, r⟩, R.rows, R.tab, R.dif, ht, R.led, R.room, R.few⟩
end
end DL
namespace DL
open PySem PySem.Spec PyProof.Rows L2 PySem.W
end DL
namespace DL
open PySem PySem.Spec PyProof.Rows L2 PySem.W
end DL
namespace DL
open PySem PySem.Spec PyProof.Rows L2 PySem.W
end DL
namespace DL
open PySem PySem.Spec PyProof.Rows L2
section
variable {P : Program} {w : World} {κ : Type} [DecidableEq κ] [BEq κ] [LawfulBEq κ] {knd : KeyKind P w κ} {A : Around} {E : Value → Shared → Prop} {s : Shared}
/-- at D stands the set of just these different keys -/
def SetV (knd : KeyKind P w κ) (h : Heap) (D : Addr) (l : List κ) : Prop := h.SetOf knd D (fun k => decide (k ∈ l)) l.length
/-- what such a set holds behind some items -/
structure HoldV (ks l : List κ) : Prop where
  dif : l.Nodup
  sub : ∀ x ∈ l, x ∈ ks
  all : ∀ x ∈ ks, x ∈ l
theorem HoldV.len {ks l : List κ} (g : HoldV ks l) : l.length ≤ ks.length := List.Nodup.length_le_of_subset g.dif fun x hx => g.sub x hx
theorem SetV.at {h h' : Heap} {D : Addr} {l : List κ} (x : SetV knd h D l) (k : ∀ o, h.get? D = some o → h'.get? D = some o) : SetV knd h' D l := by
  obtain ⟨o, es, ep, t, ho, r⟩ := x
  exact ⟨o, es, ep, t, k o ho, r⟩
end
end DL
namespace DL
variable {γ : Type}
open PySem PySem.Spec PyProof.Rows L2
def rgP (a b : Int) : List PV := (List.range (b - a).toNat).map fun i => PV.int (a + (i : Nat))
def rgFit (a b : Int) : Bool := decide (-(2 ^ 62) ≤ a) && decide (a < 2 ^ 62) && decide (-(2 ^ 62) ≤ b) && decide (b < 2 ^ 62) && decide ((b - a).toNat ≤ 2 ^ 24)
theorem rgFit_of {a b : Int} (h : rgFit a b = true) : RgOk a b := by
  unfold rgFit at h
  simp only [Bool.and_eq_true, decide_eq_true_eq] at h
  exact ⟨h.1.1.1.1, h.1.1.1.2, h.1.1.2, h.1.2, h.2⟩
def rg1 (f : Int → Int → Sto → Rz γ) : PV → Sto → Rz γ := fun p μ => match p with
  | .int n => if rgFit 0 n = true then f 0 n μ else .bad
  | _ => .bad
abbrev rgI : Int → Int → Sto → Rz (List PV × (Sto → Bool)) := fun a b μ => .ok (rgP a b, fun _ => true) μ
abbrev rgL : Int → Int → Sto → Rz PV := fun a b μ => .ok (.ref μ.length) (μ ++ [.lst (rgP a b)])
def dRg1 (d : DE) : DI := fun η μ => (d η μ).bind (rg1 rgI)
def dLstRg1 (d : DE) : DE := fun η μ => (d η μ).bind (rg1 rgL)
theorem ints_rvs {K : PySem.W.Frag} {ρ : List Addr} {H : Hp} (a : Int) : ∀ l : List Nat, RVs K ρ H (l.map fun i => PV.int (a + (i : Nat))) (l.map fun i => V.int (a + (i : Nat)))
  | [] => .nil
  | _ :: r => .cons (.int _) (ints_rvs a r)
theorem wk_rg {P : Program} {w : World} {K : PySem.W.Frag} {ρ : List Addr} {H : Hp} (a b : Int) : Wk P w K (Itr a (b - a).toNat) ρ H (rgP a b) (fun _ => true) where
  go := fun i p ρ1 H1 μ g t hg hi => by
    unfold rgP at hi
    rw [List.getElem?_map] at hi
    obtain ⟨j, hj, rfl⟩ := Option.map_eq_some_iff.mp hi
    obtain ⟨hlt, e⟩ := List.getElem?_eq_some_iff.mp hj
    rw [List.getElem_range] at e
    subst e
    rw [List.length_range] at hlt
    exact ⟨hlt, fun x H' ⟨e1, e2⟩ => by subst e1 e2; exact ⟨Step.refl, t, .int _⟩⟩
  stop := fun ρ1 H1 μ g t hg => by
    show (b - a).toNat ≤ (rgP a b).length
    unfold rgP
    rw [List.length_map, List.length_range]
    exact Nat.le_refl _
section
variable {P : Program} {w : World} {K : PySem.W.Frag} {W : EW} {ρ : List Addr} {H : Hp} {μ : Sto} {γ δ : Type}
theorem rg1_of {f : Int → Int → Sto → Rz γ} {p : PV} {x : V} {Rel : List Addr → Hp → γ → δ → Prop} {Q : δ → Hp → Prop} (r : RV K ρ H p x) (h : Post P w K W ρ H (rg1 f p μ) Rel Q) : ∃ n, x = .int n ∧ RgOk 0 n ∧ Post P w K W ρ H (f 0 n μ) Rel Q := by
  cases r with
  | int n =>
    unfold rg1 at h
    by_cases c : rgFit 0 n = true
    · have h2 : Post P w K W ρ H (if rgFit 0 n = true then f 0 n μ else .bad) Rel Q := h
      rw [if_pos c] at h2
      exact ⟨n, rfl, rgFit_of c, h2⟩
    · have h2 : Post P w K W ρ H (if rgFit 0 n = true then f 0 n μ else .bad) Rel Q := h
      rw [if_neg c] at h2
      exact h2.elim
  | _ => exact h.elim
end
section
variable {X : Cx} {W : EW} {σ : L2.St} {H : Hp} {γ : Type}
theorem one_of {d : DE} {f : PV → Sto → Rz γ} {δ : Type} {Rel : List Addr → Hp → γ → δ → Prop} {Q : δ → Hp → Prop} (h : ∃ ρ η μ, REnv X.K ρ H η σ ∧ RSt X.prog X.w X.K ρ H μ ∧ Post X.prog X.w X.K W ρ H ((d η μ).bind f) Rel Q) :
    T X.prog X.w X.K W d σ H fun x H1 => ∃ ρ2 p μ2, RV X.K ρ2 H1 p x ∧ RSt X.prog X.w X.K ρ2 H1 μ2 ∧ Post X.prog X.w X.K W ρ2 H1 (f p μ2) Rel Q := by
  obtain ⟨ρ, η, μ, en, t, q⟩ := h
  exact ⟨ρ, η, μ, en, t, (Post.bind q).mono fun x H1 ⟨ρ1, p, μ1, st, r, t1, q1⟩ => ⟨ρ1, p, μ1, r, t1, q1⟩⟩
end
section
variable {X : Cx} {W : EW} {tg a b : Expr} {da db : DE} {p pos p2 pos2 : Pos}
theorem li_range1 (hg : Gl X "range") (hm : X.mg "range" = none) (ha : LE X W a da) (hs : starEach [a] X.env = [(false, eval a X.env)] := by rfl) : LI X W tg (.Call (.Name "range" p) [a] [] pos) (dRg1 da) :=
  (pi_range1 hg hm (pa_cons ha pa_nil hs) hs).impD fun σ H R h => (one_of h).mono fun x H1 ⟨ρ, p, μ, r, t, q⟩ => by
    obtain ⟨n, rfl, ⟨b1, b2, b3, b4, b5⟩, q⟩ := rg1_of r q
    have z := q ρ (Itr 0 (n - 0).toNat) H1 Step.refl (wk_rg 0 n) t
    rw [Int.sub_zero] at z
    exact ⟨n, rfl, b3, b4, z⟩
theorem le_lstRg1 (hc : X.calm = true) (hg : Gl X "list") (hm : X.mg "list" = none) (hg2 : Gl X "range") (hm2 : X.mg "range" = none) (ha : LE X W a da) (na : starEach [a] X.env = (false, eval a X.env) :: starEach [] X.env := by rfl)
    (nr : starEach [.Call (.Name "range" p2) [a] [] pos2] X.env = (false, eval (.Call (.Name "range" p2) [a] [] pos2) X.env) :: starEach [] X.env := by rfl) :
    LE X W (.Call (.Name "list" p) [.Call (.Name "range" p2) [a] [] pos2] [] pos) (dLstRg1 da) :=
  (pe_listRg hc hg hm (prg_1 hg2 hm2 ha na) nr).impD fun σ H Q h => (one_of h).mono fun x H1 ⟨ρ, p, μ, r, t, q⟩ => by
    obtain ⟨n, rfl, ok, q⟩ := rg1_of r q
    exact ⟨n, rfl, ok, fun l hl => ok_lst t (ints_rvs 0 (List.range (n - 0).toNat)) hl q⟩
end
end DL
namespace DL
open PySem PySem.Spec PyProof.Rows L2
def vApart (F : VF) : VF := fun xs μ => if bareL xs = true then match F xs [] with
    | .ok p _ => if bareP p = true then .ok p μ else .bad
    | _ => .bad
  else .bad
theorem apart_of {P : Program} {w : World} {K : PySem.W.Frag} {F : VF} {vs : List V} {H : Hp} {Q : VK} (h : rL P w K EW0 (vApart F) vs H Q) : rL P w K EW0 F vs H Q := by
  obtain ⟨ρ, μ, ps, r, t, h⟩ := h
  unfold vApart at h
  by_cases c : bareL ps = true
  · rw [if_pos c] at h
    refine ⟨[], [], ps, bare_rvs c r, ⟨rfl, List.nodup_nil, fun i a o e => (by cases e), fun p hp => (t.tab p hp).sub fun _ z => nomatch z⟩, ?_⟩
    cases e : F ps [] with
    | ok p μ' =>
      rw [e] at h
      have h : Post P w K EW0 ρ H (if bareP p = true then .ok p μ else .bad) (RV K) Q := h
      by_cases c2 : bareP p = true
      · rw [if_pos c2] at h
        intro ρ' x H' st rx t'
        have keep : ∀ b o, H b = some o → NT o → H' b = some o := fun b o e => st.keep b o e (by simp)
        have kept : ∀ a ∈ ρ, H' a = H a := fun a ha => by
          obtain ⟨u, e, n⟩ := t.nc ha
          rw [e, keep a u e n.2]
        have nc : ∀ a ∈ ρ, ∃ u, H' a = some u ∧ NC a u := fun a ha => by
          rw [kept a ha]
          exact t.nc ha
        have st2 : Step K ρ H ρ H' := ⟨⟨[], (List.append_nil ρ).symm, fun _ h => by cases h⟩, fun b o e _ => keep b o e, st.tup, st.live, st.dct, st.fz, fun p hp h => (st.tbl p hp (h.sub fun _ z => nomatch z)).renum nc⟩
        refine h ρ x H' st2 (bare_rv c2 rx) (t.keep st2 kept)
      · rw [if_neg c2] at h
        exact h.elim
    | err C v μ' => rw [e] at h; exact h.elim
    | bad => rw [e] at h; exact h.elim
  · rw [if_neg c] at h
    exact h.elim
theorem apart_ar {n : Nat} {F : VF} (a : Ar n F) : Ar n (vApart F) := fun ps μ h => by
  unfold vApart
  rw [a ps [] h]
  split <;> rfl
theorem fn_apart {P : Program} {w : World} {K : PySem.W.Frag} {mg : Str → Option Value} {base : Heap} {k n : Nat} {f : Addr} {fd : FuncData} {ps : List Str} {F : VF} (G : FnOk P w K mg base CX0 k f fd ps (spD P w K n F)) : FnOk P w K mg base CX0 k f fd ps (spD P w K n (vApart F)) :=
  G.imp fun vs H Q E h => ⟨h.1, apart_of h.2⟩
end DL
namespace DL
open PySem PySem.Spec PyProof.Rows L2
/-- a def's promise where no repr is under way -/
structure FnG (P : Program) (w : World) (K : PySem.W.Frag) (mg : Str → Option Value) (base : Heap) (k : Nat) (f : Addr) (fd : FuncData) (ps : List Str) (sp : Sp) : Prop where
  len : ∀ vs H Q E, sp vs H Q E → vs.length = ps.length
  run : ∀ (A : Around) (outer : List Env) (s : Shared) (H : Hp) (args : Args) (us : List Value) (vs : List V) (Q : VK) (E : XK), A.guards = some [] → Room k A → Env0 P w K mg base A outer s H → BindsTo s fd args (ps.zip us) → Vals vs us → sp vs H Q E →
    codeAny (model P w) A (.call (.ref f) args) (CR CX0 outer P w H s Q E) s
section
variable {P : Program} {w : World} {K : PySem.W.Frag} {mg : Str → Option Value} {base : Heap} {k : Nat} {f : Addr} {fd : FuncData} {ps : List Str} {sp : Sp}
theorem FnG.of (F : FnOk P w K mg base CX0 k f fd ps sp) : FnG P w K mg base k f fd ps sp := ⟨F.len, fun A outer s H args us vs Q E _ => F.run A outer s H args us vs Q E⟩
theorem fn_g {x qual : Str} {st : Stmt} {N : List Str} {d : DS} (F : Fun K x qual st f fd) (S : FnScope N ps (defScope st))
    (h : ∀ (cdv : Value) (A : Around) (outer : List Env) (s : Shared) (H : Hp) (E : XK), A.guards = some [] → Room k (A.deeper (envOfC qual (defScope st) s.heap.objs.size f cdv)) →
      LSs (cxOf CX0 P w K mg base N qual (defScope st) f cdv A outer s H E).nox EW0 (defBody st) d) : FnG P w K mg base (k + 1) f fd ps (spD P w K ps.length (fnBody ps.length N.length d)) := by
  obtain ⟨oc, od, kV, doc, pm, an, cdv, ct, osl, rfl, look, rec⟩ := F.ex
  refine ⟨fun vs H Q E hq => hq.1, fun A outer s H args us vs Q E quiet room e0 bnd rel want => ?_⟩
  have inK : K.In s.heap := e0.mod.kin.keeps fun b o e => (e0.bs b o e).1
  have noLim : s.heap.NoLimit := e0.mod.nolimit.keeps fun b o e => (e0.bs b o e).1
  have slots : ∀ y ∈ ps.zip us, (defScope st).names.lookup y.1 = some .local ∨ ((defScope st).names.lookup y.1 = some .cell ∧ ((cellsFrom (s.heap.objs.size + 1) (defScope st).names []).lookup y.1).isSome = true) := fun ⟨n, v⟩ hy => by
    rcases S.par n (List.of_mem_zip hy).1 with z | z
    · exact .inl z
    · exact .inr ⟨z, PySem.W.cellsFrom_some _ _ _ (.inl z)⟩
  refine codeAny_call_function room.depth (inK _ _ look) rfl S.co S.gen rfl (PySem.W.codeRec_of inK rec) (bnd _ _ _ _ ?_)
  refine wpAny_newFunctionEnv_cells S.kind slots fun env same s1 begun => ?_
  subst same
  refine ⟨noLim.keeps begun.toInCall.keep, codeAny_func ?_⟩
  have body := h cdv A outer s H E quiet (room.deeper _)
  obtain ⟨ln, ρ, μ, qs, rq, tq, post⟩ := want
  have ln2 : qs.length = ps.length := fnBody_ar.len post
  have enter := REnv.start rq N
  rw [ln2] at enter
  unfold fnBody at post
  rw [if_pos ln2] at post
  have I : Inv (cxOf CX0 P w K mg base N qual (defScope st) f cdv A outer s H E) [] (start N vs) H s1 := inv_start S room.hd e0 ln rel begun
  have back : ∀ {σ2 : L2.St} {H2 : Hp} {v : V} {u : Value} {s2 : Shared}, Inv (cxOf CX0 P w K mg base N qual (defScope st) f cdv A outer s H E) [] σ2 H2 s2 → RelV v u → Q v H2 → CE outer P w H s Q u s2 :=
    fun {σ2 H2 v u s2} J ru qv => ⟨v, H2, J.os, J.bare, J.base, J.hok, ru, qv⟩
  have read : TS' P w K EW0 d { nx := fun _ H2 => Q .non H2, rt := Q } (start N vs) H := by
    refine ⟨ρ, _, μ, enter, tq, (Post.bind post).mono fun x H1 ⟨ρ1, o, μ1, st1, ro, s1, q1⟩ => ?_⟩
    cases ro with
    | nx en => exact q1 ρ1 .non H1 Step.refl .non s1
    | rt r1 => exact q1 ρ1 _ H1 Step.refl r1 s1
    | bk en => exact q1.elim
    | ct en => exact q1.elim
  refine wpAny_mono (body.nox.run [] s1 (start N vs) H _ I read) (fun fl s2 ends => ?_) fun e s2 ends => ends
  cases fl with
  | ret u =>
    obtain ⟨v, σ2, H2, J, ru, qv⟩ := ends
    exact back J ru qv
  | next =>
    obtain ⟨σ2, H2, J, qv⟩ := ends
    exact back (v := V.non) (u := Value.none) J rfl qv
  | brk =>
    obtain ⟨_, _, _, no⟩ := ends
    exact no.elim
  | cont =>
    obtain ⟨_, _, _, no⟩ := ends
    exact no.elim
end
theorem int_vals : ∀ {us : List Value} {l : List Int}, IntsAre us l → Vals (l.map V.int) us
  | _, _, .nil => .nil
  | _, _, .cons i t r => .cons ⟨t, rfl⟩ (int_vals r)
section
variable {X : Cx} {k n : Nat} {f : Addr} {fd : FuncData} {ps : List Str} {F : VF} {x : Str} {p pos : Pos} {e : Expr} {es : List Expr} {ds : DA}
theorem run_g {pins : List (Addr × Obj)} {σ : L2.St} {H : Hp} {s : Shared} {Q : VK} {us : List Value} {vs : List V} (G : FnG X.prog X.w X.K X.mg X.base k f fd ps (spD X.prog X.w X.K n F)) (hF : Ar n F) (quiet : X.A.guards = some []) (hr : Room k X.A) (hb : Binds X.K fd ps [])
    (I : Inv X pins σ H s) (r : Vals vs us) (h : rL X.prog X.w X.K EW0 F vs H Q) : wpAny (model X.prog X.w) X.A (call (.ref f) us) (EP X pins σ Q) X.xe s := by
  have sp : spD X.prog X.w X.K n F vs H Q E0 := by
    have := sp_of hF h (E := E0)
    rwa [List.append_nil] at this
  have hl : (us ++ []).length = ps.length := by rw [List.append_nil, ← r.length]; exact G.len _ _ _ _ sp
  have bd := hb s us I.kIn hl
  rw [List.append_nil] at bd
  refine wpAny_call (codeAny_mono (G.run X.A X.stack s H ⟨us, []⟩ us vs Q E0 quiet hr I.env0 bd r sp) fun fin s2 hq => ?_)
  cases fin with
  | error er => exact pass0 (X := X) pins σ H s er s2 I hq
  | ok fl =>
    cases fl with
    | ret u => exact I.after hq
    | next => exact hq.elim
    | brk => exact hq.elim
    | cont => exact hq.elim
theorem le_callG (G : FnG X.prog X.w X.K X.mg X.base k f fd ps (spD X.prog X.w X.K n F)) (hF : Ar n F) (quiet : X.A.guards = some []) (hr : Room k X.A) (hg : Gl X x) (hm : X.mg x = some (.ref f)) (hk : PySem.W.keepIn X.K (.ref f) = true) (hb : Binds X.K fd ps []) (ha : LA X EW0 (e :: es) ds)
    (hdb : (x == ("__debug__" : Str)) = false := by decide) (he : starEach (e :: es) X.env = (false, eval e X.env) :: starEach es X.env := by rfl) (hpl : (backTo pos (starEach es X.env)).any (·.1) = false := by rfl) :
    LE X EW0 (.Call (.Name x p) (e :: es) [] pos) (dApp F ds) := by
  refine ⟨fun pins s σ H Q I h => ?_⟩
  refine wpAny_Call_Name_kw (ld_glob I hg hm ?_ hdb)
  refine PySem.W.callWith_K (h₀ := X.base) I.ok.mod.kin hk (thn (ha.run pos pins s σ H _ I (app_of h)) fun us s1 ⟨vs, H1, I1, r, q⟩ => ⟨I1.kIn, ?_⟩) he hpl
  exact run_g G hF quiet hr hb I1 r q
end
end DL
namespace DL
open PySem PySem.Spec PyProof.Rows L2
def reprD (μ : Sto) (p : PV) : Option Str := match pdat μ 12 p with
  | some d => if (d.showable && !d.hasDict && decide (d.depth ≤ 16) && decide (d.shown.length ≤ sizeLine)) = true then some d.shown else none
  | none => none
def vRepr : VF := fun xs μ => match xs with
  | [.int i] => if i.natAbs.log2 < 1920 then .ok (.str (toString i : String)) μ else .bad
  | [.str x] => if (reprText x).length ≤ sizeLine then .ok (.str (reprText x)) μ else .bad
  | [.bl b] => .ok (.str (if b = true then Str.ofString "True" else Str.ofString "False")) μ
  | [.non] => .ok (.str (Str.ofString "None")) μ
  | [.tup ps] => match reprD μ (.tup ps) with
    | some z => .ok (.str z) μ
    | none => .bad
  | [.ref i] => match reprD μ (.ref i) with
    | some z => .ok (.str z) μ
    | none => .bad
  | _ => .bad
section
variable {X : Cx} {W : EW}
theorem oc_repr (quiet : X.A.guards = some []) (hu : X.A.units + 40 < cLine) : OC X W (.builtin "repr") vRepr := oc1_of fun pins s σ H xs us Q ρ μ ps I r rp t h => by
  have deep : ∀ {p : PV} {a : Addr}, RV X.K ρ H p (.ref a) → us = [.ref a] → Post X.prog X.w X.K W ρ H (match reprD μ p with | some z => .ok (.str z) μ | none => .bad) (RV X.K) Q → wpAny (model X.prog X.w) X.A (call (.builtin "repr") us) (EP X pins σ Q) X.xe s := fun {p a} rv e h => by
    subst e
    unfold reprD at h
    cases e : pdat μ 12 p with
    | none => rw [e] at h; exact h.elim
    | some d =>
      rw [e] at h
      by_cases c : (d.showable && !d.hasDict && decide (d.depth ≤ 16) && decide (d.shown.length ≤ sizeLine)) = true
      · have h2 : Post X.prog X.w X.K W ρ H (match (if (d.showable && !d.hasDict && decide (d.depth ≤ 16) && decide (d.shown.length ≤ sizeLine)) = true then some d.shown else none) with | some z => .ok (.str z) μ | none => .bad) (RV X.K) Q := h
        rw [if_pos c] at h2
        simp only [Bool.and_eq_true, decide_eq_true_eq, Bool.not_eq_true'] at c
        obtain ⟨⟨⟨c1, c2⟩, c3⟩, c4⟩ := c
        obtain ⟨as, rd⟩ := Dp.reads I _ _ _ (pdat_of t 12 p _ d rv e) rfl
        refine repr_of_reads' rd c1 (fun z => by rw [c2] at z; cases z) quiet (by omega) (fun _ _ e => e) (fun h' u tk k => ?_) c4
        exact ⟨.str d.shown, H, I.kept k, ⟨u, rfl⟩, h2 ρ _ H Step.refl (.str _) t⟩
      · have h2 : Post X.prog X.w X.K W ρ H (match (if (d.showable && !d.hasDict && decide (d.depth ≤ 16) && decide (d.shown.length ≤ sizeLine)) = true then some d.shown else none) with | some z => .ok (.str z) μ | none => .bad) (RV X.K) Q := h
        rw [if_neg c] at h2
        exact h2.elim
  cases rp with
  | nil => exact h.elim
  | @cons p x _ _ r1 r2 =>
    cases r2 with
    | cons _ _ => cases r1 <;> exact h.elim
    | nil =>
      obtain ⟨u, rfl, rx⟩ := vals1 r
      cases r1 with
      | int i =>
        obtain ⟨tk, rfl⟩ : ∃ tk, u = Value.int i tk := rx
        by_cases c : i.natAbs.log2 < 1920
        · have h2 : Post X.prog X.w X.K W ρ H (if i.natAbs.log2 < 1920 then .ok (.str (toString i : String)) μ else .bad) (RV X.K) Q := h
          rw [if_pos c] at h2
          exact P.repr_of_int c ⟨.str _, H, I.tok _, ⟨_, rfl⟩, h2 ρ _ H Step.refl (.str _) t⟩
        · have h2 : Post X.prog X.w X.K W ρ H (if i.natAbs.log2 < 1920 then .ok (.str (toString i : String)) μ else .bad) (RV X.K) Q := h
          rw [if_neg c] at h2
          exact h2.elim
      | str x =>
        obtain ⟨tk, rfl⟩ : ∃ tk, u = Value.str x tk := rx
        by_cases c : (reprText x).length ≤ sizeLine
        · have h2 : Post X.prog X.w X.K W ρ H (if (reprText x).length ≤ sizeLine then .ok (.str (reprText x)) μ else .bad) (RV X.K) Q := h
          rw [if_pos c] at h2
          exact P.repr_of_str ⟨.str _, H, I.tok _, ⟨_, rfl⟩, h2 ρ _ H Step.refl (.str _) t⟩ c
        · have h2 : Post X.prog X.w X.K W ρ H (if (reprText x).length ≤ sizeLine then .ok (.str (reprText x)) μ else .bad) (RV X.K) Q := h
          rw [if_neg c] at h2
          exact h2.elim
      | bl b =>
        obtain rfl : u = Value.bool b := rx
        exact P.repr_of_bool ⟨.str _, H, I.tok _, ⟨_, rfl⟩, h ρ _ H Step.refl (.str _) t⟩
      | non =>
        obtain rfl : u = Value.none := rx
        exact P.repr_of_none ⟨.str _, H, I.tok _, ⟨_, rfl⟩, h ρ _ H Step.refl (.str _) t⟩
      | @tup ps vs a h1 h2 =>
        obtain rfl : u = Value.ref a := rx
        exact deep (p := .tup ps) (.tup h1 h2) rfl h
      | @ref i a ha =>
        obtain rfl : u = Value.ref a := rx
        exact deep (p := .ref i) (.ref ha) rfl h
      | _ => exact h.elim
end
end DL
namespace DL
open PySem PySem.Spec PyProof.Rows L2
theorem room_un {k : Nat} {A : Around} (r : Room k A) (n : Nat) (h : n ≤ 200 := by decide) : A.units + n < cLine := by
  have := r.un
  omega
structure Has (P : Program) (w : World) (K : PySem.W.Frag) (mg : Str → Option Value) (base : Heap) (k : Nat) (f : Addr) (ps : List Str) (F : VF) : Prop where
  ex : ∃ fd, Binds K fd ps [] ∧ FnOk P w K mg base CX0 k f fd ps (spD P w K ps.length F)
  kp : PySem.W.keepIn K (.ref f) = true
  ar : Ar ps.length F
structure HasG (P : Program) (w : World) (K : PySem.W.Frag) (mg : Str → Option Value) (base : Heap) (k : Nat) (f : Addr) (ps : List Str) (F : VF) : Prop where
  ex : ∃ fd, Binds K fd ps [] ∧ FnG P w K mg base k f fd ps (spD P w K ps.length F)
  kp : PySem.W.keepIn K (.ref f) = true
  ar : Ar ps.length F
section
variable {P : Program} {w : World} {K : PySem.W.Frag} {mg : Str → Option Value} {base : Heap} {x qual : Str} {st : Stmt} {f : Addr} {fd : FuncData} {N ps : List Str} {k : Nat} {d : DS} {kws : List (Str × V)}
theorem has_of {np nn : Nat} (hp : ps.length = np) (hn : N.length = nn) (F : ∃ fd, FunD K x qual (defArgs st) (defBody st) (defScope st) [] kws f fd) (S : FnScope N ps (defScope st))
    (hb : ∀ (kV doc pm : Value) (an : Option Addr) (cdv ct : Value) (us : List Value), us.length = ps.length → bindArgs (PySem.W.fnOf x qual (defArgs st) (defBody st) (defScope st) .none kV doc pm an cdv ct) ⟨us, []⟩ = pure (ps.zip us))
    (h : ∀ (cdv : Value) (A : Around) (outer : List Env) (s : Shared) (H : Hp) (E : XK), Room k (A.deeper (envOfC qual (defScope st) s.heap.objs.size f cdv)) →
      LSs (cxOf CX0 P w K mg base N qual (defScope st) f cdv A outer s H E).nox EW0 (defBody st) d) : Has P w K mg base (k + 1) f ps (fnBody np nn d) := by
  subst hp hn
  exact let ⟨fd, F⟩ := F
  ⟨⟨fd, (He5.fun_of F).binds hb, fn_ok (He5.fun_of F) S h⟩, F.kp, fnBody_ar⟩
theorem hasG_of {np nn : Nat} (hp : ps.length = np) (hn : N.length = nn) (F : ∃ fd, FunD K x qual (defArgs st) (defBody st) (defScope st) [] kws f fd) (S : FnScope N ps (defScope st))
    (hb : ∀ (kV doc pm : Value) (an : Option Addr) (cdv ct : Value) (us : List Value), us.length = ps.length → bindArgs (PySem.W.fnOf x qual (defArgs st) (defBody st) (defScope st) .none kV doc pm an cdv ct) ⟨us, []⟩ = pure (ps.zip us))
    (h : ∀ (cdv : Value) (A : Around) (outer : List Env) (s : Shared) (H : Hp) (E : XK), A.guards = some [] → Room k (A.deeper (envOfC qual (defScope st) s.heap.objs.size f cdv)) →
      LSs (cxOf CX0 P w K mg base N qual (defScope st) f cdv A outer s H E).nox EW0 (defBody st) d) : HasG P w K mg base (k + 1) f ps (fnBody np nn d) := by
  subst hp hn
  exact let ⟨fd, F⟩ := F
  ⟨⟨fd, (He5.fun_of F).binds hb, fn_g (He5.fun_of F) S h⟩, F.kp, fnBody_ar⟩
theorem Has.apart {F : VF} (h : Has P w K mg base k f ps F) : Has P w K mg base k f ps (vApart F) :=
  let ⟨⟨fd, b, G⟩, kp, ar⟩ := h
  ⟨⟨fd, b, fn_apart G⟩, kp, apart_ar ar⟩
theorem HasG.apart {F : VF} (h : HasG P w K mg base k f ps F) : HasG P w K mg base k f ps (vApart F) :=
  let ⟨⟨fd, b, G⟩, kp, ar⟩ := h
  ⟨⟨fd, b, ⟨fun vs H Q E h => h.1, fun A outer s H args us vs Q E a b c d e z => G.run A outer s H args us vs Q E a b c d e ⟨z.1, apart_of z.2⟩⟩⟩, kp, apart_ar ar⟩
theorem Has.g {F : VF} (h : Has P w K mg base k f ps F) : HasG P w K mg base k f ps F :=
  let ⟨⟨fd, b, G⟩, kp, ar⟩ := h
  ⟨⟨fd, b, .of G⟩, kp, ar⟩
end
section
variable {X : Cx} {k n : Nat} {f C g p0 : Addr} {ps : List Str} {F : VF} {x m : Str} {p pos apos : Pos} {e o : Expr} {es : List Expr} {ds : DA} {d : DE}
theorem leh_call (h : Has X.prog X.w X.K X.mg X.base k f ps F) (hr : Room k X.A) (hg : Gl X x) (hm : X.mg x = some (.ref f)) (ha : LA X EW0 (e :: es) ds)
    (hdb : (x == ("__debug__" : Str)) = false := by decide) (he : starEach (e :: es) X.env = (false, eval e X.env) :: starEach es X.env := by rfl) (hpl : (backTo pos (starEach es X.env)).any (·.1) = false := by rfl) :
    LE X EW0 (.Call (.Name x p) (e :: es) [] pos) (dApp F ds) :=
  let ⟨⟨_, b, G⟩, kp, ar⟩ := h
  le_call G ar hr hg hm kp b ha hdb he hpl
theorem leh_callG (h : HasG X.prog X.w X.K X.mg X.base k f ps F) (quiet : X.A.guards = some []) (hr : Room k X.A) (hg : Gl X x) (hm : X.mg x = some (.ref f)) (ha : LA X EW0 (e :: es) ds)
    (hdb : (x == ("__debug__" : Str)) = false := by decide) (he : starEach (e :: es) X.env = (false, eval e X.env) :: starEach es X.env := by rfl) (hpl : (backTo pos (starEach es X.env)).any (·.1) = false := by rfl) :
    LE X EW0 (.Call (.Name x p) (e :: es) [] pos) (dApp F ds) :=
  let ⟨⟨_, b, G⟩, kp, ar⟩ := h
  le_callG G ar quiet hr hg hm kp b ha hdb he hpl
end
abbrev ExL := List (PySem.W.Frag → Bool)
def obsM (ex : ExL) (fn : List He5.DefA) (K : PySem.W.Frag) : He.AlD := ((ex.all fun e => e K) && fn.all fun d => d.ok K, fn.map fun d => He5.fnA K (d.at_ K))
def valM (fn : List He5.DefA) : He.AlD := (true, fn.map He5.DefA.val)
def SaysM (ex : ExL) (fn : List He5.DefA) (K : PySem.W.Frag) : Prop := obsM ex fn K = valM fn
/-- the same, lists left out: the script's list is none of them -/
def notLst (q : Addr × Obj) : Bool := match q.2.cls with
  | .type c => !decide (c = "list")
  | _ => true
def frN_ (g : Addr → Option Obj) (as : List Addr) : PySem.W.Frag := (He.frG g as).filter notLst
theorem frN_mem {g : Addr → Option Obj} {as : List Addr} {a : Addr} {o : Obj} (h : (frN_ g as).lookup a = some o) : g a = some o ∧ notLst (a, o) = true := by
  obtain ⟨h1, h2⟩ := List.mem_filter.mp (He.lookup_mem h)
  exact ⟨He.frG_mem h1, h2⟩
def NoLst (K : PySem.W.Frag) : Prop := ∀ a o, K.lookup a = some o → o.cls ≠ .type "list"
theorem noLst_of {g : Addr → Option Obj} {as : List Addr} : NoLst (frN_ g as) := fun a o h e => by
  have h2 := (frN_mem h).2
  unfold notLst at h2
  rw [show ((a, o) : Addr × Obj).2.cls = Value.type "list" from e] at h2
  simp at h2
section
variable {ex : ExL} {fn : List He5.DefA} {K : PySem.W.Frag}
theorem SaysM.ok (c : SaysM ex fn K) (i : Nat) {f : PySem.W.Frag → Bool} (h : ex[i]? = some f) : f K = true := by
  have c1 := (He.ba (show ((ex.all fun e => e K) && fn.all fun d => d.ok K) = true from congrArg (fun z : He.AlD => z.1) c)).1
  exact List.all_eq_true.mp c1 f (List.mem_of_getElem? h)
theorem SaysM.def_ (c : SaysM ex fn K) (i : Nat) {d : He5.DefA} (h : fn[i]? = some d) : ∃ fd, L2.FunD K d.name d.qual d.params d.body d.scope (d.dvs K) (d.kws K) (d.at_ K) fd :=
  He5.SaysA.def_ (fa := []) (fn := fn) (by
    have c1 := (He.ba (show ((ex.all fun e => e K) && fn.all fun d => d.ok K) = true from congrArg (fun z : He.AlD => z.1) c)).2
    have c2 : fn.map (fun d => He5.fnA K (d.at_ K)) = fn.map He5.DefA.val := congrArg (fun z : He.AlD => z.2) c
    show He5.obsA [] fn K = He5.valA fn
    exact Prod.ext (by show (true && fn.all fun d => d.ok K) = true; rw [c1]; rfl) c2) i h
end
/-- the module's name x stands for the object at a -/
def gloB (x : Str) (a : Addr) (K : PySem.W.Frag) : Bool := He.eqO (PySem.W.nsIn K mainGlobals x) (some (some (.ref a)))
theorem gloB_ok {K : PySem.W.Frag} {h : Heap} {mg : Str → Option Value} (X : K.In h) (G : h.Ns mainGlobals mg) {x : Str} {a : Addr} (c : gloB x a K = true) : mg x = some (.ref a) := PySem.W.mg_of X G (He.eqO_ok c)
def faB (f : He.Fa) (K : PySem.W.Frag) : Bool := f.ok K
end DL
namespace DL
open PySem PySem.Spec PyProof.Rows L2
noncomputable def eqN (a : List Nat) : List Nat → Bool := List.rec (motive := fun _ => List Nat → Bool) (fun b => List.rec (motive := fun _ => Bool) true (fun _ _ _ => false) b)
  (fun x _ ih b => List.rec (motive := fun _ => Bool) false (fun y ys _ => Bool.rec (motive := fun _ => Bool) false (ih ys) (Nat.beq x y)) b) a
theorem eqN_iff : ∀ {a b : List Nat}, eqN a b = true ↔ a = b
  | [], [] => ⟨fun _ => rfl, fun _ => rfl⟩
  | [], _ :: _ => ⟨fun h => (by cases h), fun h => (by cases h)⟩
  | _ :: _, [] => ⟨fun h => (by cases h), fun h => (by cases h)⟩
  | x :: xs, y :: ys => by
    show (Bool.rec (motive := fun _ => Bool) false (eqN xs ys) (Nat.beq x y) : Bool) = true ↔ _
    cases e : Nat.beq x y with
    | true =>
      have e2 := Nat.eq_of_beq_eq_true e
      subst e2
      show eqN xs ys = true ↔ _
      rw [eqN_iff]
      simp
    | false =>
      have e2 := Nat.ne_of_beq_eq_false e
      refine ⟨fun h => (by cases h), fun h => ?_⟩
      injection h with h1 h2
      exact absurd h1 e2
noncomputable def eqS (x y : Str) : Bool := eqN x.cps.toList y.cps.toList
theorem eqS_iff {x y : Str} : eqS x y = true ↔ x = y := by
  unfold eqS
  rw [eqN_iff]
  obtain ⟨⟨a⟩⟩ := x
  obtain ⟨⟨b⟩⟩ := y
  simp
theorem eqS_eq (x y : Str) : eqS x y = (x == y) := Bool.eq_iff_iff.mpr (eqS_iff.trans beq_iff_eq.symm)
noncomputable def okN (l : List Nat) : Bool := List.rec (motive := fun _ => Bool) true (fun c _ ih => Bool.rec (motive := fun _ => Bool) ih false (Nat.ble 0x110000 c)) l
theorem okN_eq : ∀ l : List Nat, okN l = l.all (· < 0x110000)
  | [] => rfl
  | c :: r => by
    show (Bool.rec (motive := fun _ => Bool) (okN r) false (Nat.ble 0x110000 c) : Bool) = _
    cases e : Nat.ble 0x110000 c with
    | true =>
      have := Nat.le_of_ble_eq_true e
      simp [List.all_cons, show ¬ c < 0x110000 by omega]
    | false =>
      have : ¬ 0x110000 ≤ c := fun h => by rw [Nat.ble_eq_true_of_le h] at e; cases e
      simp only [List.all_cons, okN_eq r]
      simp [show c < 0x110000 by omega]
noncomputable def okS (x : Str) : Bool := okN x.cps.toList
theorem okS_eq (x : Str) : okS x = PyData.strOk x := by
  unfold okS PyData.strOk
  rw [okN_eq]
  simp
theorem shaped_str (x : Str) : SeqAt.shaped (.str x) = okS x := by
  rw [okS_eq]
  simp [SeqAt.shaped, PyData.canLay0, PyData.depth]
noncomputable def vEqF : VF := fun xs μ => match xs with
  | [.str a, .str b] => if (okS a && okS b) = true then .ok (.bl (eqS a b)) μ else .bad
  | [.int i, .int j] => .ok (.bl (decide (i = j))) μ
  | xs => vEqA xs μ
noncomputable def vNeF : VF := fun xs μ => match xs with
  | [.str a, .str b] => if (okS a && okS b) = true then .ok (.bl (!eqS a b)) μ else .bad
  | [.int i, .int j] => .ok (.bl (!decide (i = j))) μ
  | xs => vNeA xs μ
theorem vEqF_eq : vEqF = vEqA := by
  funext xs μ
  unfold vEqF
  split
  · rename_i a b
    show _ = (match pdat μ 12 (.str a), pdat μ 12 (.str b) with | some d, some e => if (SeqAt.shaped d && SeqAt.shaped e) = true then Rz.ok (PV.bl (PyData.eqv d e)) μ else .bad | _, _ => .bad)
    rw [pdat, pdat]
    simp only [shaped_str, eqS_eq, PyData.eqv]
  · rename_i i j
    show _ = (match pdat μ 12 (.int i), pdat μ 12 (.int j) with | some d, some e => if (SeqAt.shaped d && SeqAt.shaped e) = true then Rz.ok (PV.bl (PyData.eqv d e)) μ else .bad | _, _ => .bad)
    rw [pdat, pdat]
    simp [SeqAt.shaped, PyData.canLay0, PyData.depth, PyData.eqv]
    rw [Bool.eq_iff_iff]
    simp
  · rfl
theorem vNeF_eq : vNeF = vNeA := by
  funext xs μ
  unfold vNeF
  split
  · rename_i a b
    show _ = (match pdat μ 12 (.str a), pdat μ 12 (.str b) with | some d, some e => if (SeqAt.shaped d && SeqAt.shaped e) = true then Rz.ok (PV.bl (!PyData.eqv d e)) μ else .bad | _, _ => .bad)
    rw [pdat, pdat]
    simp only [shaped_str, eqS_eq, PyData.eqv]
  · rename_i i j
    show _ = (match pdat μ 12 (.int i), pdat μ 12 (.int j) with | some d, some e => if (SeqAt.shaped d && SeqAt.shaped e) = true then Rz.ok (PV.bl (!PyData.eqv d e)) μ else .bad | _, _ => .bad)
    rw [pdat, pdat]
    simp [SeqAt.shaped, PyData.canLay0, PyData.depth, PyData.eqv]
    rw [Bool.eq_iff_iff]
    simp
  · rfl
noncomputable def eqK (a b : PV) : Bool := match a, b with
  | .str x, .str y => eqS x y
  | .int i, .int j => decide (i = j)
  | .tup [.str x, .str x'], .tup [.str y, .str y'] => match eqS x y with
    | true => eqS x' y'
    | false => false
  | a, b => decide (a = b)
noncomputable def dgetF (kvs : List (PV × PV)) (k : PV) : Option PV := List.rec (motive := fun _ => Option PV) none (fun q _ ih => Bool.rec (motive := fun _ => Option PV) ih (some q.2) (eqK q.1 k)) kvs
noncomputable def memS (x : Str) (l : List Str) : Bool := List.rec (motive := fun _ => Bool) false (fun y _ ih => Bool.rec (motive := fun _ => Bool) ih true (eqS y x)) l
noncomputable def okSs (l : List Str) : Bool := List.rec (motive := fun _ => Bool) true (fun y _ ih => Bool.rec (motive := fun _ => Bool) false ih (okS y)) l
noncomputable def inF (μ : Sto) (p c : PV) : Option Bool := match c with
  | .tup ps => match p with
    | .str x => match strsL ps with
      | some ys => if (okS x && okSs ys) = true then some (memS x ys) else none
      | none => isIn μ p (.tup ps)
    | p => isIn μ p (.tup ps)
  | .ref i => match dctAt μ i with
    | some kvs => if keyIn kvs p = true then some (dgetF kvs p).isSome else none
    | none => inSeq μ p (.ref i)
  | c => isIn μ p c
noncomputable def nth {α : Type} (l : List α) : Nat → Option α := List.rec (motive := fun _ => Nat → Option α) (fun _ => none) (fun x _ ih n => Nat.rec (motive := fun _ => Option α) (some x) (fun m _ => ih m) n) l
theorem nth_eq {α : Type} : ∀ (l : List α) (n : Nat), nth l n = l[n]?
  | [], _ => rfl
  | x :: xs, 0 => rfl
  | x :: xs, m + 1 => nth_eq xs m
end DL
namespace DL
open PySem PySem.Spec PyProof.Rows L2
theorem bindOk {α β : Type} (a : α) (μ : Sto) (f : α → Sto → Rz β) : (Rz.ok a μ).bind f = f a μ := (Eq.refl _).trans (Eq.refl _)
theorem mul_l {μ : Sto} {i j : Int} (h : -(2 ^ 64) < i ∧ i < 2 ^ 64) : vMulA [.int i, .int j] μ = .ok (.int (i * j)) μ := if_pos (.inl h)
theorem mul_r {μ : Sto} {i j : Int} (h : -(2 ^ 64) < j ∧ j < 2 ^ 64) : vMulA [.int i, .int j] μ = .ok (.int (i * j)) μ := if_pos (.inr h)
theorem mod_p {μ : Sto} {i j : Int} (h : 0 < j) : vMod [.int i, .int j] μ = .ok (.int (i % j)) μ := if_pos h
theorem int_i {μ : Sto} {i : Int} : vInt [.int i] μ = .ok (.int i) μ := rfl
theorem int_b {μ : Sto} {k : Bool} : vInt [.bl k] μ = .ok (.int (if k then 1 else 0)) μ := rfl
theorem abs_i {μ : Sto} {i : Int} : vAbs [.int i] μ = .ok (.int (if i < 0 then -i else i)) μ := rfl
theorem add_i {μ : Sto} {i j : Int} : vAdd [.int i, .int j] μ = .ok (.int (i + j)) μ := rfl
theorem ge_i {μ : Sto} {i j : Int} : vGe [.int i, .int j] μ = .ok (.bl (decide (j ≤ i))) μ := rfl
theorem lt_i {μ : Sto} {i j : Int} : vLt [.int i, .int j] μ = .ok (.bl (decide (i < j))) μ := rfl
theorem len_0 {μ : Sto} {i : Nat} {ps : List PV} (h : seqAt μ i = some ps) (hd : dctAt μ i = none) : vLen [.ref i] μ = .ok (.int ps.length) μ := by
  simp only [vLen, lenOf, hd, h, Option.map_some]
theorem ix_0 {μ : Sto} {i : Nat} {ps : List PV} {z : Int} {p : PV} (h : seqAt μ i = some ps) (hd : dctAt μ i = none) (hz : L2.atI ps z = some p) : vIx [.ref i, .int z] μ = .ok p μ := by
  show (match dctAt μ i with | some kvs => _ | none => vItem [.ref i, .int z] μ) = _
  rw [hd]
  show (match (seqAt μ i).bind fun ps => L2.atI ps z with | some p => Rz.ok p μ | none => .bad) = _
  rw [h, Option.bind_some, hz]
theorem lst_k {μ : Sto} {ps : List PV} (h : ps.length ≤ 100) : vLst ps μ = .ok (.ref μ.length) (μ ++ [.lst ps]) := if_pos (Nat.le_trans h (by decide))
theorem gt_i {μ : Sto} {i j : Int} : vGt [.int i, .int j] μ = .ok (.bl (decide (j < i))) μ := rfl
theorem div_p {μ : Sto} {i j : Int} (h : 0 < j) (hb : j < 2 ^ 64) : vDiv [.int i, .int j] μ = .ok (.int (i / j)) μ := by
  refine if_pos ⟨h, ?_⟩
  have : j.natAbs < 2 ^ 64 := by omega
  by_cases c : j.natAbs = 0
  · rw [c]; decide
  · exact Nat.lt_of_lt_of_le ((Nat.log2_lt c).mpr this) (by decide)
theorem cube {μ : Sto} {i : Int} (h : i.natAbs < 2 ^ 80) : vPow [.int i, .int 3] μ = .ok (.int (i ^ 3)) μ := by
  refine (if_pos ⟨by decide, ?_⟩).trans rfl
  have := PySem.intBits_le_iff.mpr h
  omega
theorem seq_l {μ : Sto} {i : Nat} {ps : List PV} (h : μ[i]? = some (.lst ps)) : seqAt μ i = some ps := by unfold seqAt; rw [h]
theorem dct_l {μ : Sto} {i : Nat} {ps : List PV} (h : μ[i]? = some (.lst ps)) : dctAt μ i = none := by unfold dctAt; rw [h]
theorem lst_l {μ : Sto} {i : Nat} {ps : List PV} (h : μ[i]? = some (.lst ps)) : isLst μ i = some ps := by unfold isLst; rw [h]
theorem ix_l {μ : Sto} {i : Nat} {ps : List PV} {z : Int} {p : PV} (h : μ[i]? = some (.lst ps)) (hz : L2.atI ps z = some p) : vIx [.ref i, .int z] μ = .ok p μ := ix_0 (seq_l h) (dct_l h) hz
theorem len_l {μ : Sto} {i : Nat} {ps : List PV} (h : μ[i]? = some (.lst ps)) : vLen [.ref i] μ = .ok (.int ps.length) μ := len_0 (seq_l h) (dct_l h)
theorem st_l {μ : Sto} {i : Nat} {ps : List PV} {z : Int} {n : Nat} {v : PV} (h : μ[i]? = some (.lst ps)) (hz : ixN ps.length z = some n) : vStore (.ref i) (.int z) v μ = some (μ.set i (.lst (ps.set n v))) := by
  show (match dctAt μ i with | some kvs => _ | none => match (isLst μ i).bind (storeL (.int z) v) with | some ps => some (μ.set i (.lst ps)) | none => none) = _
  rw [dct_l h, lst_l h]
  simp only [Option.bind_some, storeL, hz, Option.map_some]
end DL
namespace DL
open PySem PySem.Spec PyProof.Rows L2
end DL
namespace DL
open PySem PySem.Spec PyProof.Rows L2
abbrev lim : Nat := 0x110000
/-- what letters stand for: names, whole numbers -/
structure Nu where
  nm : Nat → List Nat
  iv : Nat → Int
instance : CoeFun Nu (fun _ => Nat → List Nat) := ⟨Nu.nm⟩
section
variable (ν : Nu)
def gC (c : Nat) : List Nat := if c < lim then [c] else ν (c - lim)
def gN : List Nat → List Nat
  | [] => []
  | c :: r => gC ν c ++ gN r
def gTx (x : Str) : Str := ⟨⟨gN ν x.cps.toList⟩⟩
mutual
def gP : PV → PV
  | .str x => .str (gTx ν x)
  | .tup ps => .tup (gPs ps)
  | .non => .non
  | .bl b => .bl b
  | .int i => .int i
  | .ref i => .ref i
  | .ty n => .ty n
  | .glb a => if a < lim then .glb a else .int (ν.iv (a - lim))
  | .exc C v => .exc C (gP v)
def gPs : List PV → List PV
  | [] => []
  | p :: ps => gP p :: gPs ps
end
def gK : List (PV × PV) → List (PV × PV)
  | [] => []
  | q :: r => (gP ν q.1, gP ν q.2) :: gK r
def gF : List (Str × PV) → List (Str × PV)
  | [] => []
  | q :: r => (q.1, gP ν q.2) :: gF r
def gO : MObj → MObj
  | .lst ps => .lst (gPs ν ps)
  | .rol ps => .rol (gPs ν ps)
  | .dct kvs => .dct (gK ν kvs)
  | .ins C fs => .ins C (gF ν fs)
abbrev gM (μ : Sto) : Sto := μ.map (gO ν)
/-- what is reckoned with letters, if it comes to an end, is so of the names -/
def SG {α : Type} (g : α → α) (x y : Rz α) : Prop := ∀ a μ, x = .ok a μ → y = .ok (g a) (gM ν μ)
end
section
variable {ν : Nu}
theorem SG.ok {α : Type} {g : α → α} {a : α} {μ : Sto} {y : Rz α} (h : y = .ok (g a) (gM ν μ)) : SG ν g (.ok a μ) y := fun a' μ' e => by
  cases e
  exact h
theorem SG.bad {α : Type} {g : α → α} {y : Rz α} : SG ν g .bad y := fun a' μ' e => by cases e
theorem SG.err {α : Type} {g : α → α} {y : Rz α} {C : Addr} {v : PV} {μ : Sto} : SG ν g (.err C v μ) y := fun a' μ' e => by cases e
theorem SG.bind {α β : Type} {ga : α → α} {gb : β → β} {x y : Rz α} {f f' : α → Sto → Rz β} (h : SG ν ga x y) (hf : ∀ a μ, SG ν gb (f a μ) (f' (ga a) (gM ν μ))) : SG ν gb (x.bind f) (y.bind f') := by
  cases x with
  | ok a μ =>
    rw [h a μ rfl]
    exact hf a μ
  | err C v μ => exact SG.err
  | bad => exact SG.bad
theorem SG.calm {α : Type} {g : α → α} {x y : Rz α} (h : SG ν g x y) : SG ν g (calmR x) (calmR y) := by
  cases x with
  | ok a μ =>
    rw [h a μ rfl]
    exact SG.ok rfl
  | _ => exact SG.bad
end
end DL
namespace DL
open PySem PySem.Spec PyProof.Rows L2
end DL
namespace DL
open PySem PySem.Spec PyProof.Rows L2
end DL
namespace DL
open PySem PySem.Spec PyProof.Rows L2
end DL
namespace DL
open PySem PySem.Spec PyProof.Rows L2
end DL
namespace DL
open PySem PySem.Spec PyProof.Rows L2
end DL
namespace DL
open PySem PySem.Spec PyProof.Rows L2
end DL
namespace DL
open PySem PySem.Spec PyProof.Rows L2
def nu (x y : Str) : Nu := ⟨fun i => match i with
  | 0 => x.cps.toList
  | _ + 1 => y.cps.toList, fun _ => 0⟩
end DL
namespace DL
open PySem PySem.Spec PyProof.Rows L2
theorem _root_.L2.PK.impD {X : Cx} {kws : List Keyword} {t t' : TA} (h : PK X kws t) (i : ∀ σ H Q, t' σ H Q → t σ H Q) : PK X kws t' := ⟨fun pos pins s σ H Q I z => h.run pos pins s σ H Q I (i σ H Q z)⟩
end DL
namespace DL
open PySem PySem.Spec PyProof.Rows L2
end DL
namespace DL
open PySem PySem.Spec PyProof.Rows L2
end DL
namespace DL
open PySem PySem.Spec PyProof.Rows L2
end DL
namespace DL
open PySem PySem.Spec PyProof.Rows L2
end DL
namespace DL
open PySem PySem.Spec PyProof.Rows L2
end DL
namespace DL
open PySem PySem.Spec PyProof.Rows L2
end DL
namespace DL
open PySem PySem.Spec PyProof.Rows L2
end DL
namespace DL
open PySem PySem.Spec PyProof.Rows L2
end DL
namespace DL
open PySem PySem.Spec PyProof.Rows L2
end DL
namespace DL
open PySem PySem.Spec PyProof.Rows L2
end DL
namespace DL
open PySem PySem.Spec PyProof.Rows L2
section
variable {P : Program} {w : World} {K : PySem.W.Frag} {mg : Str → Option Value} {base : Heap} {k : Nat} {f : Addr} {ps : List Str}
section
variable {x qual : Str} {st : Stmt} {fd : FuncData} {N : List Str} {d : DS} {kws : List (Str × V)}
theorem lawG_of {np nn : Nat} (hp : ps.length = np) (hn : N.length = nn) (F : FunD K x qual (defArgs st) (defBody st) (defScope st) [] kws f fd) (S : FnScope N ps (defScope st))
    (h : ∀ (cdv : Value) (A : Around) (outer : List Env) (s : Shared) (H : Hp) (E : XK), A.guards = some [] → Room k (A.deeper (envOfC qual (defScope st) s.heap.objs.size f cdv)) →
      LSs (cxOf CX0 P w K mg base N qual (defScope st) f cdv A outer s H E).nox EW0 (defBody st) d) : FnG P w K mg base (k + 1) f fd ps (spD P w K np (fnBody np nn d)) := by
  subst hp hn
  exact fn_g (He5.fun_of F) S h
end
end
theorem lt_of_get {μ : Sto} {i : Nat} {o : MObj} (h : μ[i]? = some o) : i < μ.length := (List.getElem?_eq_some_iff.mp h).1
end DL
namespace DL
open PySem PySem.Spec PyProof.Rows L2
end DL
namespace DL
open PySem PySem.Spec PyProof.Rows L2
end DL
namespace DL
open PySem PySem.Spec PyProof.Rows L2
theorem vix3 {μ : Sto} {i : Nat} {a b c : PV} (h : μ[i]? = some (.lst [a, b, c])) : vIx [.ref i, .int 0] μ = .ok a μ ∧ vIx [.ref i, .int 1] μ = .ok b μ ∧ vIx [.ref i, .int 2] μ = .ok c μ := ⟨ix_l h rfl, ix_l h rfl, ix_l h rfl⟩
abbrev Pot := Int × Int × Int
def potO (p : Pot) : MObj := .lst [.int p.1, .int p.2.1, .int p.2.2]
/-- a pot, from which so many were taken at most -/
structure PotOk (p : Pot) (c : Int) : Prop where
  a : 0 ≤ p.1
  b : 0 ≤ p.2.1
  b2 : p.2.1 < 2305843009213693921
  c1 : 0 ≤ p.2.2
  c2 : p.2.2 ≤ c
/-- a draw: a number below u, another pot, whatever else stands there -/
def TakeSpec (take : VF) : Prop := ∀ (p : Pot) (c u : Int), PotOk p c → c ≤ 1000 → 0 < u → u ≤ 1000 →
  ∃ (d : Nat) (p' : Pot), (d : Int) < u ∧ PotOk p' (c + 1) ∧ ∀ (μ : Sto) (i : Nat), μ[i]? = some (potO p) → ∃ more, take [.ref i, .int u] μ = .ok (.int d) (μ.set i (potO p') ++ more)
/-- so many of a pool, each but once -/
inductive Picks {α : Type} : List α → List α → Prop
  | nil {l : List α} : Picks l []
  | cons {l : List α} {a : Nat} (h : a < l.length) {xs : List α} : Picks (l.eraseIdx a) xs → Picks l (l[a] :: xs)
/-- but for some numbers all stands as it was -/
def FrS (S : List Nat) (μ μ' : Sto) : Prop := μ.length ≤ μ'.length ∧ ∀ j, j < μ.length → j ∉ S → μ'[j]? = μ[j]?
theorem FrS.trans {S : List Nat} {μ μ1 μ2 : Sto} (a : FrS S μ μ1) (b : FrS S μ1 μ2) : FrS S μ μ2 := ⟨Nat.le_trans a.1 b.1, fun j h n => (b.2 j (Nat.lt_of_lt_of_le h a.1) n).trans (a.2 j h n)⟩
theorem FrS.set {S : List Nat} {μ : Sto} {i : Nat} {o : MObj} (h : i ∈ S) : FrS S μ (μ.set i o) := ⟨by simp, fun j _ n => List.getElem?_set_ne fun e => n (by rw [← e]; exact h)⟩
theorem FrS.sub {S S' : List Nat} {μ μ' : Sto} (h : FrS S μ μ') (hs : ∀ j, j < μ.length → j ∈ S → j ∈ S') : FrS S' μ μ' := ⟨h.1, fun j hj n => h.2 j hj fun z => n (hs j hj z)⟩
end DL
namespace DL
open PySem PySem.Spec PyProof.Rows L2
theorem erase_map2 {α β : Type} (f : α → β) : ∀ (l : List α) (a : Nat), (l.map f).eraseIdx a = (l.eraseIdx a).map f
  | [], _ => rfl
  | x :: xs, 0 => rfl
  | x :: xs, a + 1 => by
    show f x :: (xs.map f).eraseIdx a = f x :: (xs.eraseIdx a).map f
    rw [erase_map2 f xs a]
theorem Picks.map {α β : Type} {f : α → β} : ∀ {xs : List β} {l : List α}, Picks (l.map f) xs → ∃ ys, xs = ys.map f ∧ Picks l ys
  | [], l, _ => ⟨[], rfl, .nil⟩
  | x :: xs, l, h => by
    generalize hl : l.map f = l' at h
    cases h with
    | cons h q =>
      rename_i a
      subst hl
      rw [erase_map2] at q
      obtain ⟨ys, rfl, r⟩ := Picks.map q
      refine ⟨l[a]'(by simpa using h) :: ys, by simp, .cons _ r⟩
theorem Picks.mem {α : Type} : ∀ {xs l : List α}, Picks l xs → ∀ x ∈ xs, x ∈ l
  | [], _, _, _, hx => by cases hx
  | x :: xs, l, h, y, hy => by
    cases h with
    | cons h q =>
      rcases List.mem_cons.mp hy with rfl | hy
      · exact List.getElem_mem h
      · exact List.mem_of_mem_eraseIdx (q.mem y hy)
/-- all ways of so many draws -/
inductive Plan where
  | done
  | tk (n : Nat) (f : Nat → Plan)
def Plan.ok : Plan → Nat → Prop
  | .done, _ => True
  | .tk _ _, 0 => False
  | .tk n f, m + 1 => 0 < n ∧ n ≤ 1000 ∧ ∀ d, (f d).ok m
end DL
namespace DL
open PySem PySem.Spec PyProof.Rows L2
end DL
namespace DL
open PySem PySem.Spec PyProof.Rows L2
theorem big : (1000000 : Nat) ≤ sizeLine := by decide
section
variable {μ : Sto} {a b : List Nat}
theorem eq_i {i j : Int} : vEqA [.int i, .int j] μ = .ok (.bl (decide (i = j))) μ := by
  rw [← vEqF_eq]
  rfl
theorem same_ls {i : Nat} {ps : List PV} (h : μ[i]? = some (.lst ps)) : sameSeq μ i ps = true := by
  simp only [sameSeq, seq_l h, PV.beqs_self]
end
end DL
namespace DL
open PySem PySem.Spec PyProof.Rows L2
section
variable {μ : Sto} {x a b c d : List Nat}
theorem pdatL_map {f : PV → Option PyData} {g : PV → PyData} : ∀ {l : List PV}, (∀ p ∈ l, f p = some (g p)) → pdatL f l = some (l.map g)
  | [], _ => rfl
  | p :: r, h => by
    unfold pdatL
    rw [h p (by simp), pdatL_map fun q hq => h q (by simp [hq])]
    rfl
end
end DL
namespace DL
open PySem PySem.Spec PyProof.Rows L2 PySem.W
end DL
namespace DL
open PySem PySem.Spec PyProof.Rows L2
section
variable {μ : Sto} {i : Nat} {l : List (List Nat × PV)} {x : List Nat}
theorem isi_st {ps : List PV} : vIsi (isiB .str []) [.tup ps] μ = .ok (.bl false) μ := (Eq.refl _).trans (Eq.refl _)
end
end DL
namespace DL
open PySem PySem.Spec PyProof.Rows L2
theorem lookup_mem {α β : Type} [BEq α] [LawfulBEq α] {l : List (α × β)} {x : α} {v : β} (h : l.lookup x = some v) : (x, v) ∈ l := by
  induction l with
  | nil => simp at h
  | cons q r ih =>
    obtain ⟨k, u⟩ := q
    rw [List.lookup_cons] at h
    by_cases c : x = k
    · subst c
      simp at h
      subst h
      simp
    · rw [show (x == k) = false from beq_eq_false_iff_ne.mpr c] at h
      exact List.mem_cons_of_mem _ (ih h)
end DL
namespace DL
open PySem PySem.Spec PyProof.Rows L2
section
variable {μ more : Sto} {o o' : MObj}
theorem at_mid : (μ ++ o :: more)[μ.length]? = some o := by
  rw [List.getElem?_append_right (by omega)]
  simp
theorem set_mid : (μ ++ o :: more).set μ.length o' = μ ++ o' :: more := by
  rw [List.set_append_right _ _ (by omega)]
  simp
theorem app_mid (l : Sto) : (μ ++ o :: more) ++ l = μ ++ o :: (more ++ l) := by simp
end
end DL
namespace DL
open PySem PySem.Spec PyProof.Rows L2
end DL
namespace DL
open PySem PySem.Spec PyProof.Rows L2
end DL
namespace DL
open PySem PySem.Spec PyProof.Rows L2
end DL
namespace DL
open PySem PySem.Spec PyProof.Rows L2 PySem.W
end DL
namespace DL
open PySem PySem.Spec PyProof.Rows L2
theorem emp_ll {μ : Sto} {i j : Nat} {ps qs : List PV} (hi : μ[i]? = some (.lst ps)) (hj : μ[j]? = some (.lst qs)) : dEmp μ (.ref i) (.ref j) = none := by
  have d1 : dctAt μ i = none := by unfold dctAt; rw [hi]
  have d2 : dctAt μ j = none := by unfold dctAt; rw [hj]
  unfold dEmp
  simp only [d1, d2]
theorem so_ll {μ : Sto} {i : Nat} {ps : List PV} (h : μ[i]? = some (.lst ps)) : srcOf (.ref i) μ = some (ps, fun μ' => sameSeq μ' i ps) := by
  simp only [srcOf, seq_l h]
/-- a comprehension whose steps leave things behind: `I` holds of each store on the way -/
theorem lc_more {gd : Sto → Bool} {g : DG} {tt : DT} {d : DE} {η : Env'} {I : Sto → Prop} {c : PV → Bool} {f : PV → PV} {e : PV → Env'} (hg : ∀ μ, I μ → gd μ = true) : ∀ (its acc : List PV) (μ : Sto), I μ → acc.length + its.length ≤ 1000000 →
    (∀ p ∈ its, ∀ μ, I μ → g p η μ = .ok (e p) μ ∧ ∃ l, I (μ ++ l) ∧ tt (e p) μ = .ok (c p) (μ ++ l) ∧ (c p = true → d (e p) (μ ++ l) = .ok (f p) (μ ++ l))) →
    ∃ l, I (μ ++ l) ∧ lcGo gd g tt (elOne d) η its acc μ = .ok (acc ++ (its.filter c).map f) (μ ++ l)
  | [], acc, μ, hI, _, _ => by
    refine ⟨[], by rw [List.append_nil]; exact hI, ?_⟩
    unfold lcGo
    rw [if_pos (hg μ hI)]
    simp
  | p :: rest, acc, μ, hI, hl, h => by
    obtain ⟨h1, l1, hI1, h2, h3⟩ := h p (by simp) μ hI
    simp only [List.length_cons] at hl
    have st : lcGo gd g tt (elOne d) η (p :: rest) acc μ = (if c p = true then (calmR (elOne d (e p) (μ ++ l1) acc)).bind fun acc' μ3 => lcGo gd g tt (elOne d) η rest acc' μ3 else lcGo gd g tt (elOne d) η rest acc (μ ++ l1)) := by
      rw [lcGo_cons, if_pos (hg μ hI), h1]
      show (((calmR (tt (e p) μ)).bind fun k μ2 => if k = true then (calmR (elOne d (e p) μ2 acc)).bind fun acc' μ3 => lcGo gd g tt (elOne d) η rest acc' μ3 else lcGo gd g tt (elOne d) η rest acc μ2)) = _
      rw [h2]
      rfl
    rw [st]
    cases hc : c p with
    | false =>
      simp only [Bool.false_eq_true, if_false]
      obtain ⟨l2, hI2, e2⟩ := lc_more hg rest acc (μ ++ l1) hI1 (by omega) fun q hq => h q (by simp [hq])
      rw [List.append_assoc] at hI2 e2
      exact ⟨l1 ++ l2, hI2, by rw [e2, List.filter_cons_of_neg (by simp [hc])]⟩
    | true =>
      simp only [if_true]
      have e1 : elOne d (e p) (μ ++ l1) acc = .ok (acc ++ [f p]) (μ ++ l1) := by
        unfold elOne
        rw [if_pos (Nat.lt_of_lt_of_le (show acc.length < 1000000 by omega) big), h3 hc]
        rfl
      rw [e1]
      obtain ⟨l2, hI2, e2⟩ := lc_more hg rest (acc ++ [f p]) (μ ++ l1) hI1 (by simp; omega) fun q hq => h q (by simp [hq])
      rw [List.append_assoc] at hI2 e2
      refine ⟨l1 ++ l2, hI2, ?_⟩
      show lcGo gd g tt (elOne d) η rest (acc ++ [f p]) (μ ++ l1) = _
      rw [e2, List.filter_cons_of_pos hc]
      simp
end DL
namespace DL
open PySem PySem.Spec PyProof.Rows L2 PySem.W
end DL
namespace DL
open PySem PySem.Spec PyProof.Rows L2 PySem.W
structure ZPairs (xs ys : Array Value) (lo : Addr) (h : Heap) (as : List Addr) : Prop where
  rise : as.Pairwise (· < ·)
  above : ∀ a ∈ as, lo < a
  pairs : ∀ (j : Nat) (a : Addr), as[j]? = some a → ∃ x y, xs[j]? = some x ∧ ys[j]? = some y ∧ IsPair h a x y
theorem ZPairs.there {xs ys : Array Value} {lo : Addr} {h : Heap} {as : List Addr} (g : ZPairs xs ys lo h as) {a : Addr} (ha : a ∈ as) : a < h.objs.size := by
  obtain ⟨j, hj⟩ := List.mem_iff_getElem?.mp ha
  obtain ⟨_, _, _, _, e⟩ := g.pairs j a hj
  exact Heap.lt_size e
def ZSt (h : Heap) (z TI TO i1 i2 l1 l2 : Addr) (xs ys : Array Value) (S : Addr) (i : Nat) : Prop :=
  IsPair h TI (.ref i1) (.ref i2) ∧ h.IsListIter i1 l1 i ∧ h.IsListIter i2 l2 i ∧ h.IsList l1 xs ∧ h.IsList l2 ys ∧
    ((IsZip h z TI TO .none ∧ ∃ a b, IsPair h TO a b) ∨ ∃ T f oT, IsZipHeld h z TI TO T f ∧ h.get? T = some oT ∧ T ≠ z ∧ T ≠ i1 ∧ T ≠ i2 ∧ T ≠ S)
structure ZBelow (z TI TO i1 i2 l1 l2 S : Addr) : Prop where
  z : z < S
  TI : TI < S
  TO : TO < S
  i1 : i1 < S
  i2 : i2 < S
  l1 : l1 < S
  l2 : l2 < S
theorem ZSt.keep {h h' : Heap} {z TI TO i1 i2 l1 l2 : Addr} {xs ys : Array Value} {S : Addr} {i : Nat} (st : ZSt h z TI TO i1 i2 l1 l2 xs ys S i) (B : ZBelow z TI TO i1 i2 l1 l2 S) (hk : ∀ b o, b ≠ S → h.get? b = some o → h'.get? b = some o) : ZSt h' z TI TO i1 i2 l1 l2 xs ys S i := by
  obtain ⟨hTI, h1, h2, hl1, hl2, hz⟩ := st
  refine ⟨hk _ _ (Nat.ne_of_lt B.TI) hTI, h1.at fun o e => hk _ o (Nat.ne_of_lt B.i1) e, h2.at fun o e => hk _ o (Nat.ne_of_lt B.i2) e, hl1.at fun o e => hk _ o (Nat.ne_of_lt B.l1) e, hl2.at fun o e => hk _ o (Nat.ne_of_lt B.l2) e, ?_⟩
  rcases hz with ⟨hz, a, b, hTO⟩ | ⟨T, f, oT, hz, hT, r1, r2, r3, r4⟩
  · exact .inl ⟨hk _ _ (Nat.ne_of_lt B.z) hz, a, b, hk _ _ (Nat.ne_of_lt B.TO) hTO⟩
  · exact .inr ⟨T, f, oT, hk _ _ (Nat.ne_of_lt B.z) hz, hk _ _ r4 hT, r1, r2, r3, r4⟩
section
variable {prog : Program} {w : World} {A : Around} {E : Value → Shared → Prop} {s : Shared} {z TI TO i1 i2 l1 l2 : Addr} {xs ys : Array Value}
theorem ZSt.zip {h : Heap} {S : Addr} (hz : IsZip h z TI TO .none) (hTI : IsPair h TI (.ref i1) (.ref i2)) (hTO : ∃ a b, IsPair h TO a b) (h1 : h.IsListIter i1 l1 0) (h2 : h.IsListIter i2 l2 0) (hl1 : h.IsList l1 xs) (hl2 : h.IsList l2 ys) : ZSt h z TI TO i1 i2 l1 l2 xs ys S 0 :=
  ⟨hTI, h1, h2, hl1, hl2, .inl ⟨hz, hTO⟩⟩
end
end DL
namespace DL
open PySem PySem.Spec PyProof.Rows L2 PySem.W
structure ZTrips (P1 P2 P3 : Nat → Value → Prop) (lo : Addr) (h : Heap) (as : List Addr) : Prop where
  rise : as.Pairwise (· < ·)
  above : ∀ a ∈ as, lo < a
  trips : ∀ (j : Nat) (a : Addr), as[j]? = some a → ∃ x y z, P1 j x ∧ P2 j y ∧ P3 j z ∧ IsTupOf3 h a x y z
theorem ZTrips.there {P1 P2 P3 : Nat → Value → Prop} {lo : Addr} {h : Heap} {as : List Addr} (g : ZTrips P1 P2 P3 lo h as) {a : Addr} (ha : a ∈ as) : a < h.objs.size := by
  obtain ⟨j, hj⟩ := List.mem_iff_getElem?.mp ha
  obtain ⟨_, _, _, _, _, _, e⟩ := g.trips j a hj
  exact Heap.lt_size e
section
variable {prog : Program} {w : World} {A : Around} {E : Value → Shared → Prop} {s : Shared} {z TI TO i1 i2 i3 T : Addr} {fp1 fp2 fp3 : List Addr} {n1 n2 n3 i : Nat} {P1 P2 P3 : Nat → Value → Prop} {St1 St2 St3 : Nat → Heap → Prop} {f : Bool} {oT : Obj}
def Z3St (h : Heap) (z TI TO i1 i2 i3 : Addr) (St1 St2 St3 : Nat → Heap → Prop) (S : Addr) (i : Nat) : Prop :=
  IsTupOf3 h TI (.ref i1) (.ref i2) (.ref i3) ∧ St1 i h ∧ St2 i h ∧ St3 i h ∧
    ((IsZip h z TI TO .none ∧ ∃ a b c, IsTupOf3 h TO a b c) ∨ ∃ T f oT, IsZipHeld h z TI TO T f ∧ h.get? T = some oT ∧ T ≠ z ∧ T ≠ i1 ∧ T ≠ i2 ∧ T ≠ i3 ∧ T ≠ S)
structure Z3Below (z TI TO i1 i2 i3 : Addr) (fp1 fp2 fp3 : List Addr) (S : Addr) : Prop where
  z : z < S
  TI : TI < S
  TO : TO < S
  f1 : ∀ b ∈ fp1, b < S
  f2 : ∀ b ∈ fp2, b < S
  f3 : ∀ b ∈ fp3, b < S
end
section
variable {prog : Program} {w : World} {A : Around} {E : Value → Shared → Prop} {s : Shared} {z TI TO i1 i2 i3 S : Addr} {fp1 fp2 fp3 : List Addr} {n1 n2 n3 i : Nat} {P1 P2 P3 : Nat → Value → Prop} {St1 St2 St3 : Nat → Heap → Prop}
theorem Z3St.keep {h h' : Heap} (D1 : Draws prog w A i1 fp1 n1 P1 St1) (D2 : Draws prog w A i2 fp2 n2 P2 St2) (D3 : Draws prog w A i3 fp3 n3 P3 St3) (st : Z3St h z TI TO i1 i2 i3 St1 St2 St3 S i) (B : Z3Below z TI TO i1 i2 i3 fp1 fp2 fp3 S) (hk : ∀ b o, b ≠ S → h.get? b = some o → h'.get? b = some o) : Z3St h' z TI TO i1 i2 i3 St1 St2 St3 S i := by
  obtain ⟨hTI, h1, h2, h3, hz⟩ := st
  refine ⟨hk _ _ (Nat.ne_of_lt B.TI) hTI, D1.frame _ _ _ h1 fun b hb o e => hk b o (Nat.ne_of_lt (B.f1 b hb)) e, D2.frame _ _ _ h2 fun b hb o e => hk b o (Nat.ne_of_lt (B.f2 b hb)) e, D3.frame _ _ _ h3 fun b hb o e => hk b o (Nat.ne_of_lt (B.f3 b hb)) e, ?_⟩
  rcases hz with ⟨hz, a, b, c, hTO⟩ | ⟨T, f, oT, hz, hT, r1, r2, r3, r4, r5⟩
  · exact .inl ⟨hk _ _ (Nat.ne_of_lt B.z) hz, a, b, c, hk _ _ (Nat.ne_of_lt B.TO) hTO⟩
  · exact .inr ⟨T, f, oT, hk _ _ (Nat.ne_of_lt B.z) hz, hk _ _ r5 hT, r1, r2, r3, r4, r5⟩
end
end DL
namespace DL
open PySem PySem.Spec PyProof.Rows L2 PySem.W PySem.Calls
section
variable {prog : Program} {w : World} {A : Around} {E : Value → Shared → Prop} {hp : Heap} {gn : Array GenState} {dr : Drawn} {tk : Nat} {os : OsState}
/-- the bound built-in __init__ is called: the args are laid anew -/
theorem call_mw {C u x t0 : Addr} {rest : List Value} {Q : Value → Shared → Prop} {nm q : Str} {N : Addr} {bs bm : List Value} {hdct : Bool} {sn : List Str} {sub : List Value} {ab : Bool} {col : Option Bool} {dd : Option Addr} {k0 k1 k2 k3 k5 : Option Value}
    (cls : hp.get? C = some (excClassObj nm q C N bs bm hdct sn sub ab col dd k0 k1 k2 k3 k5 "ValueError.__new__")) (obj : hp.get? x = some (HandSPX.excO C t0)) (mw : hp.get? u = some (kxs_mw "ValueError.__init__" x)) (few : rest.length ≤ sizeLine)
    (fin : ∀ h' t1, (∀ b o, b ≠ x → hp.get? b = some o → h'.get? b = some o) → h'.get? x = some (HandSPX.excO C t1) → Q .none ⟨h', gn, dr, tk, os⟩) : wpAny (model prog w) A (call (.ref u) rest) Q E ⟨hp, gn, dr, tk, os⟩ := by
  refine wpAny_call (codeAny_of_tree ?_)
  show wpAny (model prog w) A.in1 (callAny (.ref u) { pos := rest }) _ _ _
  unfold callAny
  refine wpAny_bind (wpAny_load mw ?_)
  have m1 : (Value.type "method-wrapper" == Value.type "method" || Value.type "method-wrapper" == Value.type "builtin_function_or_method" || Value.type "method-wrapper" == Value.type "method-wrapper") = true := by decide
  dsimp only [kxs_mw]
  simp only [m1, if_true]
  refine KFB.if_so (by decide) ?_
  refine wpAny_bind (check_bound_init (F.excBase_ValueError.toExcCallFacts) cls obj rfl ?_)
  refine wpAny_bind (wpAny_pure (wpAny_pure ⟨plainId_quiet F.excBase_ValueError.init.plain _, codeAny_builtin F.excBase_ValueError.initEntry ?_⟩))
  exact exc_init_tree (cls := .ref C) (t0 := t0) (dv := none) (c2 := .none) (c3 := .none) (b4 := .bool false) obj few fun h' k e _ => fin h' _ k e
end
/-- the body of such an __init__ -/
abbrev xiCall (l : Nat) : Expr := .Call (.Attribute (.Call (.Name "super" ⟨l, 8, l, 13⟩) [] [] ⟨l, 8, l, 15⟩) "__init__" ⟨l, 8, l, 24⟩) [.Name "value" ⟨l, 25, l, 30⟩] [] ⟨l, 8, l, 31⟩
abbrev xiSet (l : Nat) : Stmt := .Assign [.Attribute (.Name "self" ⟨l + 1, 8, l + 1, 12⟩) "value" ⟨l + 1, 8, l + 1, 18⟩] (.Name "value" ⟨l + 1, 21, l + 1, 26⟩) ⟨l + 1, 8, l + 1, 26⟩
abbrev xiBody (l : Nat) : List Stmt := [.Expr (xiCall l) ⟨l, 8, l, 31⟩, xiSet l]
/-- how it is read -/
structure XiRead (l : Nat) : Prop where
  call : ∃ pl, ∀ env, eval (xiCall l) env = (do
      let ov ← attributeBase (.Call (.Name "super" ⟨l, 8, l, 13⟩) [] [] ⟨l, 8, l, 15⟩) "__init__" env (eval (.Call (.Name "super" ⟨l, 8, l, 13⟩) [] [] ⟨l, 8, l, 15⟩) env)
      standAt (Pos.atName ⟨l, 8, l, 24⟩)
      let (f, first) ← holding [ov] (getMethod ov "__init__" pl)
      callWith ⟨l, 8, l, 31⟩ f first (backTo ⟨l, 8, l, 31⟩ (starEach [.Name "value" ⟨l, 25, l, 30⟩] env)) [])
  one : ∀ env, swapsWith (xiCall l) none l env = pure false
  two : ∀ env, swapsWith (.Name "value" ⟨l + 1, 21, l + 1, 26⟩) (some (.Attribute (.Name "self" ⟨l + 1, 8, l + 1, 12⟩) "value" ⟨l + 1, 8, l + 1, 18⟩)) (l + 1) env = pure false
theorem xiRead {l : Nat} (h : l = 5 ∨ l = 8) : XiRead l := by
  rcases h with rfl | rfl
  · exact ⟨⟨_, fun _ => rfl⟩, fun _ => rfl, fun _ => rfl⟩
  · exact ⟨⟨_, fun _ => rfl⟩, fun _ => rfl, fun _ => rfl⟩
abbrev xiScope : Scope := { kind := .function, names := [("self", .local), ("value", .local), ("__class__", .free), ("super", .globalImplicit)], isGenerator := false, isCoroutine := false, more := [] }
/-- what the written part must say of the def at f in the class at M -/
structure XiDef (K : PySem.W.Frag) (P : Program) (M f : Addr) : Prop where
  ex : ∃ (oc dV kV doc pm ct : Value) (od an : Option Addr) (osl : Array (Option Value)) (ar : Arg) (params : Arguments) (l : Nat) (cda cc : Addr) (qual : Str) (c1 c3 : Value) (c2 c4 : Option Addr) (vs cs1 : Array (Option Value)) (fs : Array Value) (file : Str) (tf : Tok),
    (l = 5 ∨ l = 8) ∧ K.lookup f = some ⟨oc, od, .func (ksFn "__init__" qual params (xiBody l) xiScope dV kV doc pm an (.ref cda) ct cc), osl⟩ ∧ codeIn K (.ref cda) qual = true ∧
      (params.posonlyargs ++ params.args).head? = some ar ∧ ar.arg = "self" ∧ (∀ (x u : Value), bindArgs (ksFn "__init__" qual params (xiBody l) xiScope dV kV doc pm an (.ref cda) ct cc) ⟨[x, u], []⟩ = pure [(Str.ofString "self", x), (Str.ofString "value", u)]) ∧
      K.lookup cda = some ⟨c1, c2, .fields fs, vs⟩ ∧ fs[2]? = some (.str file tf) ∧ ((P.main.file : Str) == file) = true ∧ (P.main.scope.names.lookup ("super" : Str)).isSome = false ∧
      K.lookup cc = some ⟨c3, c4, .cell (some (.ref M)), cs1⟩
  typ : typeIn K (.ref f) = some (.type "function")
  cls : (clsIn K M).isSome = true
  sup : nsIn K mainGlobals "super" = some none
  thr : nsIn K cStatics "thirdparty.any" = some none
/-- .. of the class at C, M itself or below it -/
structure XiCls (K : PySem.W.Frag) (M f C : Addr) : Prop where
  oex : OexC K C
  ini : findIn K (.ref C) "__init__" = some (some (.ref f))
  sub : mroIn K C (.ref M) = some true
  bas : ks_superIn K C M "__init__" = some (some (.builtin "ValueError.__init__"))
  ve : subIn K (.ref C) (.type "ValueError") = some true
  val : findIn K (.ref C) "value" = some none
section
variable {prog : Program} {w : World} {A : Around} {R : Result → Shared → Prop} {K : PySem.W.Frag} {mg mb : Str → Option Value} {hp : Heap} {gn : Array GenState} {dr : Drawn} {tk : Nat} {os : OsState} {M f C x t0 : Addr} {u : Value}
theorem ns_kept {h1 h2 : Heap} {a : Addr} {m : Str → Option Value} (n : h1.Ns a m) (k : ∀ o, h1.get? a = some o → h2.get? a = some o) : h2.Ns a m :=
  let ⟨o, es, ep, e, r⟩ := n
  ⟨o, es, ep, k o e, r⟩
/-- the __init__ is run on a new exception object -/
theorem xi_run (D : XiDef K prog M f) (T : XiCls K M f C) (inK : K.In hp) (glob : hp.Ns mainGlobals mg) (blt : hp.Ns builtinsNs mb) (boot : ∀ y : Str, y ≠ "__name__" → mb y = bootBuiltins y) (lim : hp.NoLimit) (room : A.depth < recursionLimit)
    (obj : hp.get? x = some (HandSPX.excO C t0)) (xnew : K.lookup x = none)
    (fin : ∀ h' t1 dx tk', (∀ b o, b ≠ x → hp.get? b = some o → h'.get? b = some o) → hp.objs.size ≤ dx → h'.get? x = some { cls := .ref C, dict := some dx, data := .fields #[.ref t1, .none, .none, .none, .bool false, .none] } →
      h'.Ns1 dx (fun y => if y = "value" then some u else none) → R (.ok (.ret .none)) ⟨h', gn, dr, tk', os⟩) :
    codeAny (model prog w) A (.call (.ref f) ⟨[.ref x, u], []⟩) R ⟨hp, gn, dr, tk, os⟩ := by
  obtain ⟨oc, dV, kV, doc, pm, ct, od, an, osl, ar, params, l, cda, cc, qual, c1, c3, c2, c4, vs, cs1, fs, file, tf, line, look, code, head, arg, bind, codeAt, fileAt, here, noSup, cell⟩ := D.ex
  obtain ⟨nm, q, N, bs, bm, sn, sub, ab, col, dd, k0, k1, k2, k3, k5, atC, isVE⟩ := T.oex.cls
  obtain ⟨cdM, atM⟩ := Option.isSome_iff_exists.mp D.cls
  have cdC : clsIn K C = some { name := nm, bases := bs, mro := .ref C :: bm, ns := N, qualname := q, hasDict := true, slotNames := sn, subclasses := sub, abstract := ab, collection := col, hasDel := false } := by unfold clsIn; rw [atC] <;> rfl
  have names : ∀ y ∈ [(("self" : Str), Value.ref x), ("value", u)], xiScope.names.lookup y.1 = some .local := fun y hy => by
    rcases List.mem_cons.mp hy with e | hy
    · rw [e]; rfl
    · rw [List.mem_singleton.mp hy]; rfl
  refine ks_codeAny_call_defAt (fd := ksFn "__init__" qual params (xiBody l) xiScope dV kV doc pm an (.ref cda) ct cc) (body := xiBody l) (binds := [("self", .ref x), ("value", u)]) room (inK _ _ look) rfl lim (codeRec_of inK code) rfl (BindsTo.of_eq (bind _ _))
    (show ∀ y ∈ xiScope.names, y.2 ≠ .cell by decide) names fun h1 n1 k1' => ?_
  obtain ⟨L, hL⟩ : ∃ L, hp.objs.size = L := ⟨_, rfl⟩
  have n1 : h1.Ns L (fun y => List.lookup y (List.reverse [(("self" : Str), Value.ref x), ("value", u)])) := by rw [← hL]; exact n1
  have xL : x < L := by rw [← hL]; exact Heap.lt_size obj
  have L1 : ∀ b o, hp.get? b = some o → b ≠ L := fun b o e => by rw [← hL]; exact Nat.ne_of_lt (Heap.lt_size e)
  rw [hL]
  obtain ⟨⟨pl, rd⟩, rd1, rd2⟩ := xiRead line
  refine ks_wpAt_execs_cons (ks_wpAt_Expr_any (ks_wpAt_MethodCall (pl := pl) ?_ (rd _)) rfl (rd1 _))
  have at1 : ∀ {b : Addr} {o : Obj}, K.lookup b = some o → h1.get? b = some o := fun e => k1' _ _ (inK _ _ e)
  have mgS : mg "super" = none := mg_none_of inK glob D.sup
  obtain ⟨oM, oM1, oM2⟩ : ∃ oM, h1.get? M = some oM ∧ oM.data = .cls cdM := by
    unfold clsIn at atM
    split at atM
    · rename_i z1 z2 z3 z4 z5
      cases atM
      exact ⟨_, at1 z5, rfl⟩
    · cases atM
  refine ks_wpAt_super_base (ar := ar) rfl rfl (by decide) rfl (at1 look) rfl head rfl (at1 codeAt) rfl fileAt here noSup ?_
  rw [arg]
  refine ks_loadName_global rfl rfl (loadGlobal_builtin (ns_kept glob fun o e => k1' _ o e) mgS (ns_kept blt fun o e => k1' _ o e) ((boot _ (by decide +kernel)).trans PyProof.Rows.Boot.«super») ⟨rfl, ?_⟩)
  refine wpAny_loadName_free rfl rfl rfl ⟨_, at1 cell, rfl⟩ (wpAny_loadName_local rfl rfl n1 (v := .ref x) rfl (ks_wpAny_isType_cls oM1 oM2 ⟨rfl, ?_⟩))
  have obj1 := k1' _ _ obj
  refine ks_wpAny_call_super oM1 oM2 obj1 rfl (fun c z => nomatch z) (looks_mroIn (inK.keeps k1') T.sub) fun h2 so k2 => ?_
  -- super().__init__
  have in2 : K.In h2 := (inK.keeps k1').keeps k2
  have obj2 := k2 _ _ obj1
  have i2 : InstAt h2 x (HandSPX.excO C t0) C none := ⟨obj2, rfl, rfl, trivial⟩
  have xC : x ≠ C := ks_ne in2 i2 cdC
  have bas := T.bas
  unfold ks_superIn at bas
  rw [cdC, Option.bind_some] at bas
  refine kxs_getMethod kxs_ValueError so (looks_opaque in2 D.thr) (fun A' Q' E' s' kk z => wpAny_bind (looks_clsIn in2 cdC A' _ E' s' kk (wpAny_pure z))) rfl in2 bas (i2.type.andThen (looks_subIn in2 T.ve)) xC (by decide) ?_
  generalize hu : h2.objs.size = wu
  have szL : L < h1.objs.size := n1.lt
  obtain ⟨h3, e3⟩ : ∃ h3, h2.push (kxs_mw "ValueError.__init__" x) = h3 := ⟨_, rfl⟩
  rw [e3]
  have k3 : ∀ b o, h2.get? b = some o → h3.get? b = some o := fun b o e => by rw [← e3]; exact Heap.get?_push_of_some _ e
  have mw : h3.get? wu = some (kxs_mw "ValueError.__init__" x) := by rw [← e3, ← hu]; exact Heap.get?_push_at rfl rfl
  have k03 : ∀ b o, hp.get? b = some o → h3.get? b = some o := fun b o e => k3 _ _ (k2 _ _ (k1' _ _ e))
  have n3 : h3.Ns L (fun y => List.lookup y (List.reverse [(("self" : Str), Value.ref x), ("value", u)])) := ns_kept n1 fun o e => k3 _ _ (k2 _ _ e)
  refine kxs_callWith (i := "ValueError.__init__") (x := x) rfl (evalArgs_plain ?_)
  refine Calls.spliced_cons (wpAny_Name (wpAny_loadName_local rfl rfl n3 (v := u) rfl (Calls.spliced_nil ⟨mw, ?_⟩)) (by decide))
  refine call_mw (k3 _ _ (k2 _ _ (at1 atC))) (k3 _ _ obj2) mw (by show 1 ≤ sizeLine; rw [sizeLine_eq]; omega) fun h4 t1 k4 obj4 => ?_
  -- self.value = value
  have k04 : ∀ b o, b ≠ x → hp.get? b = some o → h4.get? b = some o := fun b o n e => k4 b o n (k03 b o e)
  have in4 : K.In h4 := fun b o e => k4 b o (fun z => by
    rw [z, xnew] at e
    cases e) (k03 _ _ (inK _ _ e))
  have n4 : h4.Ns L (fun y => List.lookup y (List.reverse [(("self" : Str), Value.ref x), ("value", u)])) := ns_kept n3 fun o e => k4 _ _ (Nat.ne_of_gt xL) e
  refine ks_wpAt_execs_cons (ks_wpAt_Assign_Attr (PySem.wpAt_of_wpAny (wpAny_Name (wpAny_loadName_local rfl rfl n4 (v := u) rfl (wpAny_Name (wpAny_loadName_local rfl rfl n4 (v := .ref x) rfl ?_) (by decide))) (by decide))) (rd2 _))
  have i4 : InstAt h4 x (HandSPX.excO C t1) C none := ⟨obj4, rfl, rfl, trivial⟩
  refine set_plain in4 i4 T.oex.sa (HandSPX.exc_osa in4 obj4 cdC (show HandSPX.refsVE (.ref C :: bm) = true from isVE) rfl T.val fun h5 tk5 dx k5' dn dne obj5 n5 => ?_)
  refine PySem.wpAt_of_wpAny (wpAny_execs_nil ?_)
  refine fin h5 t1 dx tk5 (fun b o n e => k5' b o n (k04 b o n e)) ?_ obj5 n5
  exact Nat.le_of_lt (Nat.lt_of_lt_of_le (by rw [hL]; exact n4.lt) dn)
end
end DL
namespace DL
open PySem PySem.Spec PyProof.Rows L2
/-- the exception object at a, its dict at d, both known as they stand -/
def excH (H : Hp) (a d : Addr) (oe od : Obj) (x : V) : Hp := upd (upd H a (.frz oe (.own a))) d (.frz od (.xd [("value", x)]))
theorem excH_d {H : Hp} {a d : Addr} {oe od : Obj} {x : V} : excH H a d oe od x d = some (.frz od (.xd [("value", x)])) := upd_same
theorem excH_a {H : Hp} {a d : Addr} {oe od : Obj} {x : V} (h : a ≠ d) : excH H a d oe od x a = some (.frz oe (.own a)) := (upd_ne h).trans upd_same
theorem excH_ne {H : Hp} {a d b : Addr} {oe od : Obj} {x : V} (h1 : b ≠ a) (h2 : b ≠ d) : excH H a d oe od x b = H b := (upd_ne h2).trans (upd_ne h1)
end DL
namespace DL
open PySem PySem.Spec PyProof.Rows L2
end DL
namespace DL
open PySem PySem.Spec PyProof.Rows L2
section
variable {X : Cx} {pins : List (Addr × Obj)} {σ : L2.St} {H : Hp} {s : Shared} {M f C : Addr} {u : Value}
theorem exc_make (D : XiDef X.K X.prog M f) (T : XiCls X.K M f C) (hr : Room 2 X.A) (I : Inv X pins σ H s) {Q : Value → Shared → Prop} {E : Value → Shared → Prop}
    (fin : ∀ h' tk' a dx t1, (∀ b o, s.heap.get? b = some o → h'.get? b = some o) → s.heap.objs.size ≤ a → s.heap.objs.size ≤ dx → a ≠ dx → h'.get? a = some { cls := .ref C, dict := some dx, data := .fields #[.ref t1, .none, .none, .none, .bool false, .none] } →
      h'.Ns1 dx (fun y => if y = "value" then some u else none) → Q (.ref a) { s with heap := h', toks := tk' }) : wpAny (model X.prog X.w) X.A (call (.ref C) [u]) Q E s := by
  obtain ⟨nm, q, N, bs, bm, sn, sub, ab, col, dd, k0, k1, k2, k3, k5, atC, isVE⟩ := T.oex.cls
  have inK := I.kIn
  have lim := I.nolimit
  have glob := I.mod.glob
  obtain ⟨mb, blt, boot⟩ := I.mod.blt
  have bk := I.bk
  obtain ⟨hp, gn, dr, tk, os⟩ := s
  have kk : ∀ b o, hp.get? b = some o → ((hp.push (PySem.W.kdv_tup [u])).push (PySem.HandSPX.excO C hp.objs.size)).get? b = some o := fun b o e => Heap.get?_push_of_some _ (Heap.get?_push_of_some _ e)
  have obj : ((hp.push (PySem.W.kdv_tup [u])).push (PySem.HandSPX.excO C hp.objs.size)).get? (hp.objs.size + 1) = some (PySem.HandSPX.excO C hp.objs.size) := by heap_get
  have room := (hr.make C [u] []).depth
  refine wpAny_call (PySem.HandSPX.call_own F.excBase_ValueError (fun Y => PySem.HandSPX.refsVE_contains Y bm isVE) (inK _ _ atC) (PySem.W.looks_findIn inK T.ini) (fun self => PySem.W.bind_fn inK self D.typ) (by show 1 ≤ sizeLine; rw [sizeLine_eq]; omega) ?_)
  refine xi_run D T (inK.keeps kk) (ns_kept glob fun o e => kk _ _ (bk _ _ e)) (ns_kept blt fun o e => kk _ _ (bk _ _ e)) boot (lim.keeps kk) room obj ?_ fun h' t1 dx tk' k dn e n => ?_
  · cases z : X.K.lookup (hp.objs.size + 1) with
    | none => rfl
    | some o => exact absurd (Heap.lt_size (inK _ _ z)) (Nat.not_lt.mpr (Nat.le_succ _))
  · have da : dx ≠ hp.objs.size + 1 := fun z => by
      obtain ⟨o, es, ep, g1, g2, _⟩ := n
      rw [z, e] at g1
      cases g1
      cases g2
    refine ⟨rfl, fin h' tk' (hp.objs.size + 1) dx t1 (fun b o g => k b o (Nat.ne_of_lt (Nat.lt_succ_of_lt (Heap.lt_size g))) (kk b o g)) (Nat.le_succ _) (Nat.le_trans ?_ dn) (Ne.symm da) e n⟩
    show hp.objs.size ≤ _
    rw [Heap.size_push, Heap.size_push]
    omega
end
/-- C(v), C an own exception class -/
def vExc (C : Addr) : VF := fun ps μ => match ps with
  | [p] => .ok (.exc C p) μ
  | _ => .bad
theorem exc_quiet {P : Program} {w : World} {K : PySem.W.Frag} {ρ : List Addr} {H : Hp} {μ : Sto} {a d : Addr} {oe od : Obj} {x : V} (t : RSt P w K ρ H μ) (ha : H a = none) (hd : H d = none) (n : a ≠ d) : Step K ρ H ρ (excH H a d oe od x) ∧ RSt P w K ρ (excH H a d oe od x) μ := by
  have h2 : upd H a (.frz oe (.own a)) d = none := by rw [upd_ne (Ne.symm n)]; exact hd
  exact ⟨(Step.quiet ha).trans (Step.quiet h2), (t.quiet ha).quiet h2⟩
section
variable {X : Cx} {pins : List (Addr × Obj)} {σ : L2.St} {H : Hp} {s : Shared}
theorem inv_exc {h' : Heap} {tk' : Nat} {a dx t1 C : Addr} {x : V} {u : Value} (I : Inv X pins σ H s) (k : ∀ b o, s.heap.get? b = some o → h'.get? b = some o) (ha : s.heap.objs.size ≤ a) (hd : s.heap.objs.size ≤ dx) (ne : a ≠ dx)
    (obj : h'.get? a = some { cls := .ref C, dict := some dx, data := .fields #[.ref t1, .none, .none, .none, .bool false, .none] }) (n : h'.Ns1 dx (fun y => if y = "value" then some u else none)) (rx : RelV x u) :
    ∃ od, Inv X pins σ (excH H a dx { cls := .ref C, dict := some dx, data := .fields #[.ref t1, .none, .none, .none, .bool false, .none] } od x) { s with heap := h', toks := tk' } := by
  have na : H a = none := I.hok.fresh ha
  have nd : H dx = none := I.hok.fresh hd
  obtain ⟨od, es, ep, e1, e2⟩ := n
  have lt : ∀ {b : Addr} {o : Obj}, s.heap.get? b = some o → b ≠ a ∧ b ≠ dx := fun g => ⟨Nat.ne_of_lt (Nat.lt_of_lt_of_le (Heap.lt_size g) ha), Nat.ne_of_lt (Nat.lt_of_lt_of_le (Heap.lt_size g) hd)⟩
  have nu : ∀ {b : Addr} {u : HO}, H b = some u → b ≠ a ∧ b ≠ dx := fun g => ⟨ne_of_none g na, ne_of_none g nd⟩
  have same : ∀ {oe : Obj} {b : Addr}, b ≠ a ∧ b ≠ dx → excH H a dx oe od x b = H b := fun h => excH_ne h.1 h.2
  refine ⟨od, I.un (t' := tk') ⟨fun b o g _ _ _ => k b o g, fun b o g _ _ _ => ⟨o.slots, k b o g⟩, fun b o g h _ => by rw [same (lt g)]; exact h, fun b o g _ => ⟨o, k b o g⟩, fun b xs g => by rw [same (nu g)]; exact g, fun b o v g => by rw [same (nu g)]; exact g, fun b ps g => ⟨#[], by rw [same (nu g), g]; simp⟩⟩ fun b v g => ?_⟩
  by_cases hb : b = dx
  · subst hb
    rw [excH_d] at g
    cases g
    exact ⟨e1, _, ⟨od, es, ep, e1, e2⟩, relO_put (fs := []) (mA := fun _ => none) rx fun _ => True.intro⟩
  · by_cases hb2 : b = a
    · subst hb2
      rw [excH_a hb] at g
      cases g
      exact ⟨obj, _, obj⟩
    · rw [same ⟨hb2, hb⟩] at g
      exact (I.hok b v g).stay (fun c o _ z => k c o z) (fun c z => by rw [same (nu z)]; exact z) fun c xs z => by rw [same (nu z)]; exact z
end
section
variable {X : Cx} {W : EW} {M f C : Addr} {x : Str} {e : Expr} {d : DE} {p pos : Pos}
theorem le_excV (D : XiDef X.K X.prog M f) (T : XiCls X.K M f C) (hr : Room 2 X.A) (hg : Gl X x) (hm : X.mg x = some (.ref C)) (h : LE X W e d)
    (hdb : (x == ("__debug__" : Str)) = false := by decide) (he : starEach [e] X.env = (false, eval e X.env) :: starEach [] X.env := by rfl) (hpl : (backTo pos (starEach [] X.env)).any (·.1) = false := by rfl) :
    LE X W (.Call (.Name x p) [e] [] pos) (dApp (vExc C) (dCons d dNil)) := by
  refine ⟨fun pins s σ H Q I want => ?_⟩
  refine wpAny_Call_Name_kw (ld_glob I hg hm ?_ hdb)
  refine PySem.W.callWith_K (h₀ := X.base) I.ok.mod.kin T.oex.kC ?_ he hpl
  rw [he]
  refine Calls.spliced_cons (thn (h.run pins s σ H _ I (app1 want)) fun u s1 ⟨v, H1, I1, ru, ρ, μ, ps, rp, t, q⟩ => Calls.spliced_nil ⟨I1.kIn, ?_⟩)
  show wpAny (model X.prog X.w) X.A (call (.ref C) [u]) _ _ _
  refine exc_make D T hr I1 fun h' tk' a dx t1 k ha hd ne obj n => ?_
  obtain ⟨od, J⟩ := inv_exc (tk' := tk') I1 k ha hd ne obj n ru
  have na : H1 a = none := I1.hok.fresh ha
  have nd : H1 dx = none := I1.hok.fresh hd
  refine ⟨.ref a, _, J, rfl, ?_⟩
  cases rp with
  | cons r1 r2 =>
    rename_i p ps
    cases r2
    obtain ⟨st, t2⟩ := exc_quiet (oe := { cls := .ref C, dict := some dx, data := .fields #[.ref t1, .none, .none, .none, .bool false, .none] }) (od := od) (x := v) t na nd ne
    have q : Post X.prog X.w X.K W ρ H1 (.ok (.exc C p) μ) (RV X.K) Q := q
    exact q ρ (.ref a) _ st (.exc (excH_a ne) rfl rfl rfl excH_d (r1.step st)) t2
end
end DL
namespace DL
open PySem PySem.Spec PyProof.Rows L2
/-- isinstance of an own exception class, by a table of the classes that come -/
def isiE (tb : List (Addr × Bool)) : Tg → Option Bool
  | .exc D => tb.lookup D
  | .non => some false
  | _ => none
theorem lookMem {tb : List (Addr × Bool)} {D : Addr} {b : Bool} (h : tb.lookup D = some b) : (D, b) ∈ tb := by
  induction tb with
  | nil => cases h
  | cons q r ih =>
    obtain ⟨C, k⟩ := q
    by_cases c : D = C
    · subst c
      simp [List.lookup] at h
      subst h
      exact List.mem_cons_self
    · have e : (D == C) = false := by simpa using c
      simp only [List.lookup, e] at h
      exact List.mem_cons_of_mem _ (ih h)
theorem isiE_of {K : PySem.W.Frag} {c : Value} {tb : List (Addr × Bool)} (h : ∀ q ∈ tb, ExcI K q.1 ∧ PySem.W.kitOne K (.ref q.1) c = some q.2) (hn : PySem.W.kitOne K (.type "NoneType") c = some false) : IsiC K c (isiE tb) where
  one := fun t b e => by
    cases t with
    | exc D => exact (h _ (lookMem e)).2
    | non => cases e; exact hn
    | _ => cases e
  own := fun D b e => nomatch e
  exc := fun D b e => (h _ (lookMem e)).1
/-- e.value -/
def vXval (L : List Addr) : VF := fun ps μ => match ps with
  | [.exc C p] => if C ∈ L then .ok p μ else .bad
  | _ => .bad
section
variable {X : Cx} {W : EW}
theorem le_xval {e : Expr} {d : DE} {L : List Addr} {pos : Pos} (hL : ∀ C ∈ L, XfC X.K C ∧ PySem.W.findIn X.K (.ref C) "value" = some none) (h : LE X W e d) (hb : attributeBase e "value" X.env (eval e X.env) = eval e X.env := by rfl) :
    LE X W (.Attribute e "value" pos) (dApp (vXval L) (dCons d dNil)) := by
  refine ⟨fun pins s σ H Q I want => ?_⟩
  refine attr_of hb (thn (h.run pins s σ H _ I (app1 want)) fun u s1 ⟨v, H1, I1, ru, ρ, μ, ps, rp, t, q⟩ => ?_)
  cases rp with
  | cons r1 r2 =>
    rename_i p ps
    cases r2
    cases r1 with
    | @exc C a d oe od fs p' x e1 e2 e3 e4 e5 e6 =>
      have q : Post X.prog X.w X.K W ρ H1 (if C ∈ L then .ok p' μ else .bad) (RV X.K) Q := q
      by_cases c : C ∈ L
      · rw [if_pos c] at q
        obtain ⟨F, no⟩ := hL C c
        obtain rfl : u = Value.ref a := ru
        have ha := (I1.hok a _ e1).1
        obtain ⟨hd, mA, ns, rel⟩ := I1.hok d _ e5
        obtain ⟨od2, ho, hl⟩ := lookIn_ns ns
        rw [hd] at ho
        cases ho
        obtain ⟨z, hz, rz⟩ := RelO.some_of (v := x) (o := mA "value") (rel "value")
        have J : PySem.W.InstAt s1.heap a oe C (some od) := ⟨ha, e2, by unfold PySem.W.notCls; rw [e4] <;> rfl, by rw [e3]; exact hd⟩
        exact HandSPX.exc_get I1.kIn J F.ga F.gg F.exC (PySem.W.findObj_own F.hdC no rfl (by rw [hl, hz])) (handed_of rz) ⟨x, H1, I1.tok _, rz, q ρ x H1 Step.refl e6 t⟩
      · rw [if_neg c] at q
        exact q.elim
    | _ => exact q.elim
end
end DL
namespace DL
open PySem PySem.Spec PyProof.Rows L2
def bltB (K : PySem.W.Frag) : Bool := match PySem.W.nsIn K mainGlobals "__builtins__" with
  | some (some (.ref bm)) => decide (bm ≠ builtinsNs) && (match K.lookup bm with
    | some o => (match o.cls with
      | .type t => decide (t = "module")
      | _ => false) && decide (o.dict = some builtinsNs) && (match o.data with
      | .plain => true
      | _ => false)
    | none => false)
  | _ => false
theorem bltB_ok {K : PySem.W.Frag} {h : Heap} {mg : Str → Option Value} (X : K.In h) (G : h.Ns mainGlobals mg) (e : bltB K = true) : ∃ (bm : Addr) (ob : Obj), mg "__builtins__" = some (.ref bm) ∧ bm ≠ builtinsNs ∧ h.get? bm = some ob ∧ ob.cls = .type "module" ∧ ob.dict = some builtinsNs ∧ ob.data = .plain := by
  unfold bltB at e
  split at e
  · rename_i bm hb
    rw [Bool.and_eq_true, decide_eq_true_eq] at e
    obtain ⟨e1, e2⟩ := e
    split at e2
    · rename_i o ho
      simp only [Bool.and_eq_true, decide_eq_true_eq] at e2
      obtain ⟨⟨e2, e3⟩, e4⟩ := e2
      have f1 : o.cls = .type "module" := by
        split at e2
        · rename_i t ht
          rw [ht, of_decide_eq_true e2]
        · cases e2
      have f2 : o.data = .plain := by
        split at e4
        · rename_i hp
          exact hp
        · cases e4
      exact ⟨bm, o, PySem.W.mg_of X G hb, e1, X _ _ ho, f1, e3, f2⟩
    · cases e2
  · cases e
def tabObj0 : Obj := { cls := .none, data := .fields #[] }
def tabO (o : Option Obj) : Bool := match o with
  | some o => (match o.cls with
    | .none => true
    | _ => false) && o.dict.isNone && (match o.data with
    | .fields vs => vs.size == 0
    | _ => false) && o.slots.size == 0
  | none => false
theorem tabO_ok {o : Option Obj} (h : tabO o = true) : o = some tabObj0 := by
  unfold tabO at h
  split at h
  · rename_i ob
    obtain ⟨c, d, dt, sl⟩ := ob
    simp only [Bool.and_eq_true] at h
    obtain ⟨⟨⟨h1, h2⟩, h3⟩, h4⟩ := h
    have e1 : c = .none := by
      split at h1
      · rfl
      · cases h1
    have e2 : d = none := by simpa using h2
    have e3 : dt = .fields #[] := by
      split at h3
      · rename_i vs
        rw [Array.eq_empty_of_size_eq_zero (beq_iff_eq.mp h3)]
      · cases h3
    have e4 : sl = #[] := Array.eq_empty_of_size_eq_zero (beq_iff_eq.mp h4)
    rw [e1, e2, e3, e4]
    rfl
  · cases h
/-- the hook of a law with lambdas and own exceptions: the tables tb are no part of what is known; xf: defs with a closure -/
abbrev XfL := List ((PySem.W.Frag → Addr) × He5.FnW)
def obsT (tb : List Addr) (xf : XfL) (g : Addr → Option Obj) (as : List Addr) (ex : ExL) (fn : List He5.DefA) : He.AlD :=
  ((tb.all fun P => tabO (g P) && !as.contains P) && (obsM ex fn (frN_ g as)).1, xf.map (fun q => He5.fnA (frN_ g as) (q.1 (frN_ g as))) ++ (obsM ex fn (frN_ g as)).2)
theorem frG_as {g : Addr → Option Obj} {as : List Addr} {a : Addr} {o : Obj} (h : (a, o) ∈ He.frG g as) : a ∈ as := by
  unfold He.frG at h
  obtain ⟨b, hb, e⟩ := List.mem_filterMap.mp h
  obtain ⟨o', _, e2⟩ := Option.map_eq_some_iff.mp e
  cases e2
  exact hb
theorem append_eq {α : Type} {a b c d : List α} (h : a ++ c = b ++ d) (hl : a.length = b.length) : a = b ∧ c = d := List.append_inj h hl
def hookT (tb : List Addr) (xf : XfL) (as : List Addr) (ex : ExL) (fn : List He5.DefA) : PySem.W.Hook where
  α := He.AlD
  obs := fun s => obsT tb xf s.heap.get? as ex fn
  val := fun _ => (true, xf.map (·.2) ++ (valM fn).2)
  says := fun _ h => ∃ K : PySem.W.Frag, K.In h ∧ NoLst K ∧ SaysM ex fn K ∧ (∀ P ∈ tb, h.get? P = some tabObj0 ∧ K.lookup P = none) ∧ ∀ q ∈ xf, He5.fnA K (q.1 K) = q.2
  of := fun _ s e => by
    have e : obsT tb xf s.heap.get? as ex fn = (true, xf.map (·.2) ++ (valM fn).2) := e
    have e1 := He.ba (show ((tb.all fun P => tabO (s.heap.get? P) && !as.contains P) && (obsM ex fn (frN_ s.heap.get? as)).1) = true from congrArg (fun z : He.AlD => z.1) e)
    have e2 : xf.map (fun q => He5.fnA (frN_ s.heap.get? as) (q.1 (frN_ s.heap.get? as))) ++ (obsM ex fn (frN_ s.heap.get? as)).2 = xf.map (·.2) ++ (valM fn).2 := congrArg (fun z : He.AlD => z.2) e
    obtain ⟨e3, e4⟩ := append_eq e2 (by rw [List.length_map, List.length_map])
    refine ⟨frN_ s.heap.get? as, fun _ _ h => (frN_mem h).1, noLst_of, Prod.ext e1.2 e4, fun P hP => ?_, fun q hq => ?_⟩
    · obtain ⟨f1, f2⟩ := He.ba (List.all_eq_true.mp e1.1 P hP)
      refine ⟨tabO_ok f1, ?_⟩
      cases z : (frN_ s.heap.get? as).lookup P with
      | none => rfl
      | some o =>
        obtain ⟨h1, _⟩ := List.mem_filter.mp (He.lookup_mem z)
        have := frG_as h1
        simp [List.contains_iff_mem, this] at f2
    · exact List.map_inj_left.mp e3 q hq
  keeps := fun _ _ _ ⟨K, hK, n, c, t⟩ k => ⟨K, PySem.W.Frag.In.keeps hK k, n, c, fun P hP => ⟨k _ _ (t.1 P hP).1, (t.1 P hP).2⟩, t.2⟩
def obT (tb : List Addr) (xf : XfL) (as : List Addr) (ex : ExL) (fn : List He5.DefA) (s : PySem.W.SharedT) : He.AlD := obsT tb xf (HandSHeadRun.getT s) as ex fn
theorem obT_eq {tb as : List Addr} {xf : XfL} {ex : ExL} {fn : List He5.DefA} (s : PySem.W.SharedT) : obT tb xf as ex fn s = (hookT tb xf as ex fn).obs s.abs := by
  have e : HandSHeadRun.getT s = s.abs.heap.get? := funext (HandSHeadRun.getT_eq s)
  show obsT tb xf (HandSHeadRun.getT s) as ex fn = obsT tb xf s.abs.heap.get? as ex fn
  rw [e]
def noneV (v : Value) : Bool := match v with
  | .none => true
  | _ => false
theorem noneV_ok {v : Value} (h : noneV v = true) : v = .none := by
  unfold noneV at h
  split at h
  · rfl
  · cases h
/-- the code object tells the program's file -/
def cfB (P : Program) (K : PySem.W.Frag) (v : Value) : Bool := match v with
  | .ref cda => PySem.W.codeIn K (.ref cda) "MetreError.__init__" && (match K.lookup cda with
    | some ⟨_, _, .fields fs, _⟩ => (match (fs[2]? : Option Value) with
      | some (.str file _) => ((P.main.file : Str) == file)
      | _ => false)
    | _ => false)
  | _ => false
theorem cfB_ok {P : Program} {K : PySem.W.Frag} {v : Value} (h : cfB P K v = true) : ∃ (cda : Addr) (d1 : Value) (d2 : Option Addr) (fs : Array Value) (d3 : Array (Option Value)) (file : Str) (tf : Tok), v = .ref cda ∧ PySem.W.codeIn K (.ref cda) "MetreError.__init__" = true ∧ K.lookup cda = some ⟨d1, d2, .fields fs, d3⟩ ∧ fs[2]? = some (.str file tf) ∧ ((P.main.file : Str) == file) = true := by
  unfold cfB at h
  split at h
  · rename_i cda
    obtain ⟨c1, c2⟩ := He.ba h
    split at c2
    · rename_i d1 d2 fs d3 look
      split at c2
      · rename_i file tf hf
        exact ⟨cda, d1, d2, fs, d3, file, tf, rfl, c1, look, hf, c2⟩
      · cases c2
    · cases c2
  · cases h
def xiB (P : Program) (M : Addr) (K : PySem.W.Frag) : Bool := match K.lookup (He.ma K M "__init__") with
  | some ⟨_, _, .func fd, _⟩ => cfB P K fd.code && noneV fd.defaults
  | _ => false
def cellB (cc M : Addr) (K : PySem.W.Frag) : Bool := match K.lookup cc with
  | some ⟨_, _, .cell (some (.ref m)), _⟩ => decide (m = M)
  | _ => false
abbrev xiArgs (l : Nat) : Arguments := { posonlyargs := [], args := [{ arg := "self", annotation := none, pos := ⟨l - 1, 17, l - 1, 21⟩ }, { arg := "value", annotation := none, pos := ⟨l - 1, 23, l - 1, 28⟩ }], vararg := none, kwonlyargs := [], kw_defaults := [], kwarg := none, defaults := [] }
abbrev xiFn (l : Nat) (cc : Addr) : He5.FnW := some ("__init__", "MetreError.__init__", xiArgs l, .stmts (xiBody l), xiScope, mainGlobals, [("__class__", cc)], builtinsNs)
def tyB (v : Option Value) (s : String) : Bool := match v with
  | some (.type t) => decide (t = s)
  | _ => false
theorem tyB_ok {v : Option Value} {s : String} (h : tyB v s = true) : v = some (.type s) := by
  unfold tyB at h
  split at h
  · rw [of_decide_eq_true h]
  · cases h
def xiKB (M : Addr) (K : PySem.W.Frag) : Bool := tyB (PySem.W.typeIn K (.ref (He.ma K M "__init__"))) "function" && ((PySem.W.clsIn K M).isSome && (He.eqO (PySem.W.nsIn K mainGlobals "super") (some none) && He.eqO (PySem.W.nsIn K cStatics "thirdparty.any") (some none)))
theorem xi_of {P : Program} {M cc : Addr} {K : PySem.W.Frag} {l : Nat} (hl : l = 5 ∨ l = 8) (h1 : xiB P M K = true) (h2 : cellB cc M K = true) (h3 : xiKB M K = true) (h4 : He5.fnA K (He.ma K M "__init__") = xiFn l cc) (h5 : (P.main.scope.names.lookup ("super" : Str)).isSome = false) :
    XiDef K P M (He.ma K M "__init__") := by
  obtain ⟨g1, h3⟩ := He.ba h3
  obtain ⟨g2, h3⟩ := He.ba h3
  obtain ⟨g3, g4⟩ := He.ba h3
  refine ⟨?_, tyB_ok g1, g2, He.eqO_ok g3, He.eqO_ok g4⟩
  unfold xiB at h1
  unfold He5.fnA at h4
  split at h1
  · rename_i oc od fd osl look
    rw [look] at h4
    obtain ⟨n1, n2, n3, n4, n5, n6, n7, n8, n9, n10, n11, n12, n13, n14, n15⟩ := fd
    have e2 : (some (n1, n2, n3, n4, n5, n6, n7, n15) : He5.FnW) = xiFn l cc := h4
    simp only [xiFn, Option.some.injEq, Prod.mk.injEq] at e2
    obtain ⟨k1, k2, k3, k4, k5, k6, k7, k8⟩ := e2
    subst k1 k2 k3 k4 k5 k6 k7 k8
    obtain ⟨h1, hd⟩ := He.ba h1
    have d0 : n8 = .none := noneV_ok hd
    subst d0
    obtain ⟨cda, d1, d2, fs, d3, file, tf, q1, q2, q3, q4, q5⟩ := cfB_ok h1
    have q1 : n13 = .ref cda := q1
    subst q1
    unfold cellB at h2
    split at h2
    · rename_i e1 e2 m e3 lk3
      have em := of_decide_eq_true h2
      subst em
      exact ⟨oc, .none, n9, n10, n11, n14, od, n12, osl, { arg := "self", annotation := none, pos := ⟨l - 1, 17, l - 1, 21⟩ }, xiArgs l, l, cda, cc, "MetreError.__init__", d1, e1, d2, e2, d3, e3, fs, file, tf, hl, look, q2, rfl, rfl, fun x u => rfl, q3, q4, q5, h5, lk3⟩
    · cases h2
  · cases h1
/-- an own exception class over ValueError, M itself or below it, without __init__ but M's -/
def xcB (M C : Addr) (K : PySem.W.Frag) : Bool := (match K.lookup C with
  | some ⟨cl, dd, .cls cd, sl⟩ => tyB (some cl) "type" && decide (cd.mro.length ≥ 1) && (match cd.mro with
    | .ref c :: bm => decide (c = C) && PySem.HandSPX.refsVE bm
    | _ => false) && cd.hasDict && !cd.hasDel && (match sl.toList with
    | [_, _, _, _, some (.builtin n), _] => decide (n = "ValueError.__new__")
    | _ => false)
  | _ => false) && (He.eqO (PySem.W.findIn K (.ref C) "__setattr__") (some (some (.builtin "object.__setattr__"))) && (decide (PySem.W.subIn K (.ref C) (.type "BaseException") = some true) && (tyB (PySem.W.typeIn K (.ref C)) "type" && (PySem.W.keepIn K (.ref C) &&
    (He.eqO (PySem.W.findIn K (.ref C) "__init__") (some (some (.ref (He.ma K M "__init__")))) && (decide (PySem.W.mroIn K C (.ref M) = some true) && (He.eqO (PySem.W.ks_superIn K C M "__init__") (some (some (.builtin "ValueError.__init__"))) &&
      (decide (PySem.W.subIn K (.ref C) (.type "ValueError") = some true) && He.eqO (PySem.W.findIn K (.ref C) "value") (some none)))))))))
theorem xc_of {M C : Addr} {K : PySem.W.Frag} (h : xcB M C K = true) : XiCls K M (He.ma K M "__init__") C := by
  obtain ⟨a, h⟩ := He.ba h
  obtain ⟨b1, h⟩ := He.ba h
  obtain ⟨b2, h⟩ := He.ba h
  obtain ⟨b3, h⟩ := He.ba h
  obtain ⟨b4, h⟩ := He.ba h
  obtain ⟨b5, h⟩ := He.ba h
  obtain ⟨b6, h⟩ := He.ba h
  obtain ⟨b7, h⟩ := He.ba h
  obtain ⟨b8, b9⟩ := He.ba h
  refine ⟨⟨?_, He.eqO_ok b1, of_decide_eq_true b2, tyB_ok b3, b4⟩, He.eqO_ok b5, of_decide_eq_true b6, He.eqO_ok b7, of_decide_eq_true b8, He.eqO_ok b9⟩
  split at a
  · rename_i cl dd cd sl look
    simp only [Bool.and_eq_true] at a
    obtain ⟨⟨⟨⟨⟨a1, a0⟩, a2⟩, a3⟩, a4⟩, a5⟩ := a
    have e1 := tyB_ok a1
    cases e1
    obtain ⟨nm, bs, mro, ns, qn, hd, sn, sb, ab, col, hdel⟩ := cd
    dsimp only at a2 a3 a4
    have e3 : hdel = false := by simpa using a4
    subst e3 a3
    split at a2
    · rename_i c bm
      obtain ⟨f1, f2⟩ := He.ba a2
      have := of_decide_eq_true f1
      subst this
      split at a5
      · rename_i s0 s1 s2 s3 n s5 hs
        have := of_decide_eq_true a5
        subst this
        have es : sl = #[s0, s1, s2, s3, some (.builtin "ValueError.__new__"), s5] := by rw [← hs]
        subst es
        exact ⟨nm, qn, ns, bs, bm, sn, sb, ab, col, dd, s0, s1, s2, s3, s5, look, f2⟩
      · cases a5
    · cases a2
  · cases a
def eiB (C : Addr) (K : PySem.W.Frag) : Bool := (PySem.W.clsIn K C).isSome && (He.eqO (PySem.W.findIn K (.ref C) "__getattribute__") (some (some (.builtin "BaseException.__getattribute__"))) && (He.eqO (PySem.W.findIn K (.ref C) "__getattr__") (some none) && (decide (PySem.W.subIn K (.ref C) (.type "BaseException") = some true) &&
  (He.eqO (PySem.W.findIn K (.ref C) "__class__") (some (some (.builtin "object.__class__"))) && (He.eqO (PySem.W.specialIn K (.builtin "object.__class__") "__get__") (some (some (.builtin "getset_descriptor.__get__"))) && (decide (PySem.W.takesIn K (.builtin "object.__class__") = some true) && (decide (PySem.W.mroIn K C (.type "object") = some true) &&
    (PySem.W.hasDictIn K C && He.eqO (PySem.W.findIn K (.ref C) "value") (some none)))))))))
theorem ei_of {C : Addr} {K : PySem.W.Frag} (h : eiB C K = true) : ExcI K C ∧ XfC K C ∧ PySem.W.findIn K (.ref C) "value" = some none := by
  obtain ⟨b0, h⟩ := He.ba h
  obtain ⟨b1, h⟩ := He.ba h
  obtain ⟨b2, h⟩ := He.ba h
  obtain ⟨b3, h⟩ := He.ba h
  obtain ⟨b4, h⟩ := He.ba h
  obtain ⟨b5, h⟩ := He.ba h
  obtain ⟨b6, h⟩ := He.ba h
  obtain ⟨b7, h⟩ := He.ba h
  obtain ⟨b8, b9⟩ := He.ba h
  exact ⟨⟨b0, He.eqO_ok b1, He.eqO_ok b2, of_decide_eq_true b3, He.eqO_ok b4, He.eqO_ok b5, of_decide_eq_true b6, of_decide_eq_true b7⟩, ⟨He.eqO_ok b1, He.eqO_ok b2, of_decide_eq_true b3, b8⟩, He.eqO_ok b9⟩
end DL
namespace DL
open PySem PySem.Spec PyProof.Rows L2
section
variable {P : Program} {w : World} {K : PySem.W.Frag} {mg mb : Str → Option Value} {k : Nat} {fa a : Addr} {fd : FuncData} {x : Str} {sp : Sp} {s₁ : Shared} {us : List Value} {l : List Int} {cs : List (Addr × Addr)}
theorem law_callT (inK : K.In s₁.heap) (nl : NoLst K) (top : s₁.heap.Ns mainGlobals mg) (bn : s₁.heap.Ns builtinsNs mb) (bb : ∀ x : Str, x ≠ "__name__" → mb x = bootBuiltins x) (lim : s₁.heap.NoLimit) (gens : s₁.gens = #[])
    (tabs : ∀ p ∈ cs, s₁.heap.get? p.2 = some tabObj0 ∧ K.lookup p.2 = none) (codes : ∀ p ∈ cs, PySem.W.CodeHd s₁.heap p.1 p.2)
    (mod : ∃ (bm : Addr) (ob : Obj), mg "__builtins__" = some (.ref bm) ∧ bm ≠ builtinsNs ∧ s₁.heap.get? bm = some ob ∧ ob.cls = .type "module" ∧ ob.dict = some builtinsNs ∧ ob.data = .plain)
    (ha : s₁.heap.get? a = some { cls := .type "list", data := .seq us.toArray }) (whole : IntsAre us l) (few : l.length ≤ sizeLine) (room : Room k callerA)
    (F : ∀ base : Heap, K.In base → base.Ns mainGlobals mg → (∀ p ∈ cs, LamX.TabB base mg p.1 p.2) → FnG P w K mg base k fa fd [x] sp) (bind : ∀ (s : Shared) (u : Value), BindsTo s fd ⟨[u], []⟩ [(x, u)])
    (want : ∀ (H : Hp) (o : Obj), (∀ p ∈ cs, H p.2 = some (.tbl #[])) → (∀ p ∈ cs, p.2 ≠ a) → H a = some (.frz o (.lst (l.map V.int))) → sp [.ref a] H (fun v _ => v = .bl true) fun _ _ _ => False) :
    codeAny (model P w) callerA (.call (.ref fa) ⟨[.ref a], []⟩) (fun r s' => r = .ok (.ret (.bool true)) ∧ OldK s₁.heap s'.heap ∧ s'.os = s₁.os ∧ AllBare s'.gens) s₁ := by
  have rel := int_vals whole
  have tabAt : ∀ b, b ∈ cs.map (·.2) → s₁.heap.get? b = some tabObj0 ∧ K.lookup b = none := fun b hb => by
    obtain ⟨p, hp, e⟩ := List.mem_map.mp hb
    rw [← e]
    exact tabs p hp
  have aOut : a ∉ cs.map (·.2) := fun z => by
    have e := (tabAt a z).1
    rw [ha] at e
    have e2 : Data.seq us.toArray _ = Data.fields #[] := congrArg Obj.data (Option.some.inj e)
    cases e2
  have aK : K.lookup a = none := by
    cases z : K.lookup a with
    | none => rfl
    | some o =>
      have g := inK a o z
      rw [ha] at g
      cases g
      exact absurd rfl (nl a _ z)
  obtain ⟨H, hH⟩ : ∃ H : Hp, H = fun b => if b = a then some (.frz { cls := .type "list", data := .seq us.toArray } (.lst (l.map V.int))) else if b ∈ cs.map (·.2) then some (.tbl #[]) else none := ⟨_, rfl⟩
  have Ha : H a = some (.frz { cls := .type "list", data := .seq us.toArray } (.lst (l.map V.int))) := by rw [hH]; exact if_pos rfl
  have Ht : ∀ b, b ∈ cs.map (·.2) → H b = some (.tbl #[]) := fun b hb => by rw [hH]; exact (if_neg fun z => aOut (by rw [← z]; exact hb)).trans (if_pos hb)
  have Hn : ∀ b, b ≠ a → b ∉ cs.map (·.2) → H b = none := fun b h1 h2 => by rw [hH]; exact (if_neg h1).trans (if_neg h2)
  have three : ∀ b, b = a ∨ b ∈ cs.map (·.2) ∨ H b = none := fun b => by
    by_cases h1 : b = a
    · exact .inl h1
    · by_cases h2 : b ∈ cs.map (·.2)
      · exact .inr (.inl h2)
      · exact .inr (.inr (Hn b h1 h2))
  have ok : HOk P w H s₁.heap := fun b u g => by
    rcases three b with h | h | h
    · rw [h, Ha] at g
      cases g
      rw [h]
      exact ⟨ha, by rw [List.length_map]; exact few, us, _, rel, ha⟩
    · rw [Ht b h] at g
      cases g
      exact (tabAt b h).1
    · rw [h] at g
      cases g
  have seen : ∀ {b : Addr} {o : Obj}, s₁.heap.get? b = some o → H b = none → (hidT s₁.heap H).get? b = some o := fun g n => hidT_get g n
  -- what is neither a list nor a table is not tracked
  have other : ∀ {b : Addr} {o : Obj}, s₁.heap.get? b = some o → (∀ vs n, o.data ≠ .seq vs n) → o.data ≠ .fields #[] → H b = none := fun {b o} g h1 h2 => by
    rcases three b with h | h | h
    · rw [h, ha] at g
      cases g
      exact absurd rfl (h1 _ _)
    · rw [(tabAt b h).1] at g
      cases g
      exact absurd rfl h2
    · exact h
  have names : ∀ {b : Addr} {m : Str → Option Value}, s₁.heap.Ns b m → (hidT s₁.heap H).Ns b m := fun {b m} ⟨o, es, ep, g, d, r⟩ => ⟨o, es, ep, seen g (other g (fun vs n z => by rw [d] at z; cases z) fun z => by rw [d] at z; cases z), d, r⟩
  have inB : K.In (hidT s₁.heap H) := fun b o g => seen (inK b o g) (by
    rcases three b with h | h | h
    · rw [h, aK] at g
      cases g
    · rw [(tabAt b h).2] at g
      cases g
    · exact h)
  have md : Mod K mg (hidT s₁.heap H) := ⟨inB, names top, ⟨mb, names bn, bb⟩, let ⟨mc, h1, h2⟩ := lim; ⟨mc, names h1, h2⟩⟩
  have TB : ∀ p ∈ cs, LamX.TabB (hidT s₁.heap H) mg p.1 p.2 := fun p hp => by
    have tp := (tabs p hp).1
    obtain ⟨oG, esG, epG, gG, dG, _⟩ := id top
    refine ⟨?_, ?_, fun z => ?_⟩
    · obtain ⟨o, fs, file, tf, fl, tg, inF, tx, tt, e1, r1, r2, r3, rest⟩ := codes p hp
      exact ⟨o, fs, file, tf, fl, tg, inF, tx, tt, seen e1 (other e1 (fun vs n z => by rw [r2] at z; cases z) fun z => by rw [r2] at z; cases z; simp at r3), r1, r2, r3, rest⟩
    · obtain ⟨bm, ob, b1, b2, b3, b4, b5, b6⟩ := mod
      refine ⟨bm, ob, b1, b2, fun q => ?_, fun q => ?_, seen b3 (other b3 (fun vs n z => by rw [b6] at z; cases z) fun z => by rw [b6] at z; cases z), b4, b5, b6⟩
      · rw [q, gG] at b3
        cases b3
        rw [dG] at b6
        cases b6
      · rw [q, tp] at b3
        cases b3
        cases b6
    · rw [z, tp] at gG
      cases gG
      cases dG
  have e0 : Env0 P w K mg (hidT s₁.heap H) callerA [] s₁ H := ⟨rfl, md, fun b o g => of_hidT g, Nat.le_of_eq (hidT_size _ _), trivial, fun b hb => absurd (show b ∈ ([] : List Addr) from hb) (by simp), ok, .of_eq gens⟩
  have inT : ∀ p ∈ cs, p.2 ∈ cs.map (·.2) := fun p hp => List.mem_map.mpr ⟨p, hp, rfl⟩
  refine codeAny_mono ((F _ inB (names top) TB).run callerA [] s₁ H ⟨[.ref a], []⟩ [.ref a] [.ref a] _ _ rfl room e0 (bind s₁ (.ref a)) (.cons rfl .nil) (want H _ (fun p hp => Ht _ (inT p hp)) (fun p hp z => aOut (by rw [← z]; exact inT p hp)) Ha)) fun r s' fin => ?_
  cases r with
  | error e => exact fin.elim
  | ok fl =>
    cases fl with
    | ret u =>
      obtain ⟨v, H', os, bare, un, ok', rv, isTrue⟩ := fin
      have isTrue : v = .bl true := isTrue
      subst isTrue
      obtain rfl : u = Value.bool true := rv
      have stays : ∀ b o, b ∉ cs.map (·.2) → s₁.heap.get? b = some o → s'.heap.get? b = some o := fun b o nb g => by
        rcases three b with h | h | h
        · obtain ⟨g1, _⟩ := ok' b _ (un.frzs b _ _ (by rw [h]; exact Ha))
          rw [h, ha] at g
          cases g
          exact g1
        · exact absurd h nb
        · exact un.keep b o g h (fun z => absurd (show b ∈ ([] : List Addr) from z) (by simp)) (by simp)
      have grew : ∀ p ∈ cs, ∃ more : Array Value, s'.heap.get? p.2 = some { cls := .none, data := .fields more } := fun p hp => by
        obtain ⟨more, z⟩ := un.tbls p.2 #[] (Ht _ (inT p hp))
        exact ⟨_, ok' p.2 _ z⟩
      refine ⟨rfl, ⟨fun b o g => ?_, fun b o g => ?_⟩, os, bare⟩
      · by_cases hb : b ∈ cs.map (·.2)
        · obtain ⟨p, hp, e⟩ := List.mem_map.mp hb
          obtain ⟨more, hm⟩ := grew p hp
          rw [← e] at g ⊢
          rw [(tabs p hp).1] at g
          cases g
          exact .inr (.inl ⟨((codes p hp).tab (tabs p hp).1).isCodeTable, rfl, #[], more, rfl, by rw [Array.empty_append]; exact hm⟩)
        · exact .inl (stays b o hb g)
      · by_cases hb : b ∈ cs.map (·.2)
        · obtain ⟨p, hp, e⟩ := List.mem_map.mp hb
          obtain ⟨more, hm⟩ := grew p hp
          rw [← e]
          exact ⟨_, hm⟩
        · exact ⟨o, stays b o hb g⟩
    | next => exact fin.elim
    | brk => exact fin.elim
    | cont => exact fin.elim
end
theorem walk_ofT {l : PySem.W.OpenLaw} {n k : Nat} {q : Program} {loose : List Str} {XP : (Str → Option Value) → Heap → Prop} {YP : World → Heap → Prop} {d : DefRec} {x : Str} {cs : List (Addr × Addr)}
    (most : l.most = some n) (fits : n ≤ sizeLine) (noDef : d.params.defaults = []) (room : Room k callerA)
    (F : ∀ (w : World) (mg : Str → Option Value) (fa : Addr) (h : Heap), YP w h → h.Ns mainGlobals mg → mg d.name = some (.ref fa) →
      ∃ (K : PySem.W.Frag) (fd : FuncData) (sp : Sp), K.In h ∧ NoLst K ∧ (∀ p ∈ cs, h.get? p.2 = some tabObj0 ∧ K.lookup p.2 = none) ∧ (∀ p ∈ cs, PySem.W.CodeHd h p.1 p.2) ∧
        (∃ (bm : Addr) (ob : Obj), mg "__builtins__" = some (.ref bm) ∧ bm ≠ builtinsNs ∧ h.get? bm = some ob ∧ ob.cls = .type "module" ∧ ob.dict = some builtinsNs ∧ ob.data = .plain) ∧ (∀ (s : Shared) (u : Value), BindsTo s fd ⟨[u], []⟩ [(x, u)]) ∧
        (∀ (H : Hp) (o : Obj) (a : Addr) (ns : List Int), ns.length ≤ n → (∀ p ∈ cs, H p.2 = some (.tbl #[])) → (∀ p ∈ cs, p.2 ≠ a) → H a = some (.frz o (.lst (ns.map V.int))) → sp [.ref a] H (fun v _ => v = .bl true) fun _ _ _ => False) ∧
        ∀ base : Heap, K.In base → base.Ns mainGlobals mg → (∀ p ∈ cs, LamX.TabB base mg p.1 p.2) → FnG l.prog w K mg base k fa fd [x] sp) :
    PySem.W.WalkO q loose XP YP l.row.toRowW d [] (fun f vs => PySem.call f vs) :=
  Att.attach_call most noDef fun w s₀ s₁ mg mb fa o pm cd doc a vs ns G Y ho hd rec named obj whole len gens =>
    let ⟨K, fd, sp, inK, nl, tabs, codes, mod, bind, want, Fn⟩ := F w mg fa _ Y G.T.g named
    law_callT inK nl G.T.g G.T.b G.T.builtins G.T.nolimit gens tabs codes mod obj whole (Nat.le_trans len fits) room Fn bind fun H o h1 h2 h3 => want H o a ns len h1 h2 h3
end DL
namespace DL
open PySem PySem.Spec PyProof.Rows L2
end DL
namespace G
open PySem PySem.Spec PyProof.Rows L2 DL
def top (i : Nat) : Stmt := PySem.Challenge.pw_lostmetres_k00_errors_keep_their_values.main.body.getD i (.Pass ⟨0, 0, 0, 0⟩)
abbrev aC_MetreError : Addr := 33
abbrev aC_BadTongue : Addr := 46
abbrev aC_NoWord : Addr := 58
abbrev aC_NoMetre : Addr := 70
abbrev aC_BadMeasure : Addr := 82
abbrev aC_BadVerse : Addr := 94
abbrev aC_BadRow : Addr := 106
abbrev aC_BadNotes : Addr := 118
abbrev aC_BadNote : Addr := 130
abbrev aC_Full : Addr := 142
abbrev aC_NoNote : Addr := 154
abbrev aC_OtherTongue : Addr := 166
abbrev aC_NoMeasure : Addr := 178
abbrev aC_BadClaim : Addr := 190
abbrev aC_Crowded : Addr := 202
abbrev aC_TooMany : Addr := 214
abbrev aC_NoPattern : Addr := 226
abbrev aC_BadNumber : Addr := 238
abbrev aC_BadOffers : Addr := 250
abbrev aC_BadWishes : Addr := 262
abbrev aC_Contrary : Addr := 274
abbrev aC_NothingToUndo : Addr := 286
abbrev aC_NothingToRedo : Addr := 298
abbrev aC_NoTrial : Addr := 310
abbrev aC_BadJournal : Addr := 322
abbrev aC_BadLine : Addr := 334
abbrev tabL : List (Addr × PySem.Str) := []
abbrev cs : List (Addr × Addr) := []
abbrev tbs : List Addr := []
abbrev exL : List Addr := [aC_MetreError, aC_BadTongue, aC_NoWord, aC_NoMetre, aC_BadMeasure, aC_BadVerse, aC_BadRow, aC_BadNotes, aC_BadNote, aC_Full, aC_NoNote, aC_OtherTongue, aC_NoMeasure, aC_BadClaim, aC_Crowded, aC_TooMany, aC_NoPattern, aC_BadNumber, aC_BadOffers, aC_BadWishes, aC_Contrary, aC_NothingToUndo, aC_NothingToRedo, aC_NoTrial, aC_BadJournal, aC_BadLine]
abbrev tb_MetreError : List (Addr × Bool) := [(aC_MetreError, true), (aC_BadTongue, true), (aC_NoWord, true), (aC_NoMetre, true), (aC_BadMeasure, true), (aC_BadVerse, true), (aC_BadRow, true), (aC_BadNotes, true), (aC_BadNote, true), (aC_Full, true), (aC_NoNote, true), (aC_OtherTongue, true), (aC_NoMeasure, true), (aC_BadClaim, true), (aC_Crowded, true), (aC_TooMany, true), (aC_NoPattern, true), (aC_BadNumber, true), (aC_BadOffers, true), (aC_BadWishes, true), (aC_Contrary, true), (aC_NothingToUndo, true), (aC_NothingToRedo, true), (aC_NoTrial, true), (aC_BadJournal, true), (aC_BadLine, true)]
abbrev tb_ValueError : List (Addr × Bool) := [(aC_MetreError, true), (aC_BadTongue, true), (aC_NoWord, true), (aC_NoMetre, true), (aC_BadMeasure, true), (aC_BadVerse, true), (aC_BadRow, true), (aC_BadNotes, true), (aC_BadNote, true), (aC_Full, true), (aC_NoNote, true), (aC_OtherTongue, true), (aC_NoMeasure, true), (aC_BadClaim, true), (aC_Crowded, true), (aC_TooMany, true), (aC_NoPattern, true), (aC_BadNumber, true), (aC_BadOffers, true), (aC_BadWishes, true), (aC_Contrary, true), (aC_NothingToUndo, true), (aC_NothingToRedo, true), (aC_NoTrial, true), (aC_BadJournal, true), (aC_BadLine, true)]
abbrev tb_BadTongue : List (Addr × Bool) := [(aC_MetreError, false), (aC_BadTongue, true), (aC_NoWord, false), (aC_NoMetre, false), (aC_BadMeasure, false), (aC_BadVerse, false), (aC_BadRow, false), (aC_BadNotes, false), (aC_BadNote, false), (aC_Full, false), (aC_NoNote, false), (aC_OtherTongue, false), (aC_NoMeasure, false), (aC_BadClaim, false), (aC_Crowded, false), (aC_TooMany, false), (aC_NoPattern, false), (aC_BadNumber, false), (aC_BadOffers, false), (aC_BadWishes, false), (aC_Contrary, false), (aC_NothingToUndo, false), (aC_NothingToRedo, false), (aC_NoTrial, false), (aC_BadJournal, false), (aC_BadLine, false)]
abbrev tb_NoWord : List (Addr × Bool) := [(aC_MetreError, false), (aC_BadTongue, false), (aC_NoWord, true), (aC_NoMetre, false), (aC_BadMeasure, false), (aC_BadVerse, false), (aC_BadRow, false), (aC_BadNotes, false), (aC_BadNote, false), (aC_Full, false), (aC_NoNote, false), (aC_OtherTongue, false), (aC_NoMeasure, false), (aC_BadClaim, false), (aC_Crowded, false), (aC_TooMany, false), (aC_NoPattern, false), (aC_BadNumber, false), (aC_BadOffers, false), (aC_BadWishes, false), (aC_Contrary, false), (aC_NothingToUndo, false), (aC_NothingToRedo, false), (aC_NoTrial, false), (aC_BadJournal, false), (aC_BadLine, false)]
abbrev tb_NoMetre : List (Addr × Bool) := [(aC_MetreError, false), (aC_BadTongue, false), (aC_NoWord, false), (aC_NoMetre, true), (aC_BadMeasure, false), (aC_BadVerse, false), (aC_BadRow, false), (aC_BadNotes, false), (aC_BadNote, false), (aC_Full, false), (aC_NoNote, false), (aC_OtherTongue, false), (aC_NoMeasure, false), (aC_BadClaim, false), (aC_Crowded, false), (aC_TooMany, false), (aC_NoPattern, false), (aC_BadNumber, false), (aC_BadOffers, false), (aC_BadWishes, false), (aC_Contrary, false), (aC_NothingToUndo, false), (aC_NothingToRedo, false), (aC_NoTrial, false), (aC_BadJournal, false), (aC_BadLine, false)]
abbrev tb_BadMeasure : List (Addr × Bool) := [(aC_MetreError, false), (aC_BadTongue, false), (aC_NoWord, false), (aC_NoMetre, false), (aC_BadMeasure, true), (aC_BadVerse, false), (aC_BadRow, false), (aC_BadNotes, false), (aC_BadNote, false), (aC_Full, false), (aC_NoNote, false), (aC_OtherTongue, false), (aC_NoMeasure, false), (aC_BadClaim, false), (aC_Crowded, false), (aC_TooMany, false), (aC_NoPattern, false), (aC_BadNumber, false), (aC_BadOffers, false), (aC_BadWishes, false), (aC_Contrary, false), (aC_NothingToUndo, false), (aC_NothingToRedo, false), (aC_NoTrial, false), (aC_BadJournal, false), (aC_BadLine, false)]
abbrev tb_BadVerse : List (Addr × Bool) := [(aC_MetreError, false), (aC_BadTongue, false), (aC_NoWord, false), (aC_NoMetre, false), (aC_BadMeasure, false), (aC_BadVerse, true), (aC_BadRow, false), (aC_BadNotes, false), (aC_BadNote, false), (aC_Full, false), (aC_NoNote, false), (aC_OtherTongue, false), (aC_NoMeasure, false), (aC_BadClaim, false), (aC_Crowded, false), (aC_TooMany, false), (aC_NoPattern, false), (aC_BadNumber, false), (aC_BadOffers, false), (aC_BadWishes, false), (aC_Contrary, false), (aC_NothingToUndo, false), (aC_NothingToRedo, false), (aC_NoTrial, false), (aC_BadJournal, false), (aC_BadLine, false)]
abbrev tb_BadRow : List (Addr × Bool) := [(aC_MetreError, false), (aC_BadTongue, false), (aC_NoWord, false), (aC_NoMetre, false), (aC_BadMeasure, false), (aC_BadVerse, false), (aC_BadRow, true), (aC_BadNotes, false), (aC_BadNote, false), (aC_Full, false), (aC_NoNote, false), (aC_OtherTongue, false), (aC_NoMeasure, false), (aC_BadClaim, false), (aC_Crowded, false), (aC_TooMany, false), (aC_NoPattern, false), (aC_BadNumber, false), (aC_BadOffers, false), (aC_BadWishes, false), (aC_Contrary, false), (aC_NothingToUndo, false), (aC_NothingToRedo, false), (aC_NoTrial, false), (aC_BadJournal, false), (aC_BadLine, false)]
abbrev tb_BadNotes : List (Addr × Bool) := [(aC_MetreError, false), (aC_BadTongue, false), (aC_NoWord, false), (aC_NoMetre, false), (aC_BadMeasure, false), (aC_BadVerse, false), (aC_BadRow, false), (aC_BadNotes, true), (aC_BadNote, false), (aC_Full, false), (aC_NoNote, false), (aC_OtherTongue, false), (aC_NoMeasure, false), (aC_BadClaim, false), (aC_Crowded, false), (aC_TooMany, false), (aC_NoPattern, false), (aC_BadNumber, false), (aC_BadOffers, false), (aC_BadWishes, false), (aC_Contrary, false), (aC_NothingToUndo, false), (aC_NothingToRedo, false), (aC_NoTrial, false), (aC_BadJournal, false), (aC_BadLine, false)]
abbrev tb_BadNote : List (Addr × Bool) := [(aC_MetreError, false), (aC_BadTongue, false), (aC_NoWord, false), (aC_NoMetre, false), (aC_BadMeasure, false), (aC_BadVerse, false), (aC_BadRow, false), (aC_BadNotes, false), (aC_BadNote, true), (aC_Full, false), (aC_NoNote, false), (aC_OtherTongue, false), (aC_NoMeasure, false), (aC_BadClaim, false), (aC_Crowded, false), (aC_TooMany, false), (aC_NoPattern, false), (aC_BadNumber, false), (aC_BadOffers, false), (aC_BadWishes, false), (aC_Contrary, false), (aC_NothingToUndo, false), (aC_NothingToRedo, false), (aC_NoTrial, false), (aC_BadJournal, false), (aC_BadLine, false)]
abbrev tb_Full : List (Addr × Bool) := [(aC_MetreError, false), (aC_BadTongue, false), (aC_NoWord, false), (aC_NoMetre, false), (aC_BadMeasure, false), (aC_BadVerse, false), (aC_BadRow, false), (aC_BadNotes, false), (aC_BadNote, false), (aC_Full, true), (aC_NoNote, false), (aC_OtherTongue, false), (aC_NoMeasure, false), (aC_BadClaim, false), (aC_Crowded, false), (aC_TooMany, false), (aC_NoPattern, false), (aC_BadNumber, false), (aC_BadOffers, false), (aC_BadWishes, false), (aC_Contrary, false), (aC_NothingToUndo, false), (aC_NothingToRedo, false), (aC_NoTrial, false), (aC_BadJournal, false), (aC_BadLine, false)]
abbrev tb_NoNote : List (Addr × Bool) := [(aC_MetreError, false), (aC_BadTongue, false), (aC_NoWord, false), (aC_NoMetre, false), (aC_BadMeasure, false), (aC_BadVerse, false), (aC_BadRow, false), (aC_BadNotes, false), (aC_BadNote, false), (aC_Full, false), (aC_NoNote, true), (aC_OtherTongue, false), (aC_NoMeasure, false), (aC_BadClaim, false), (aC_Crowded, false), (aC_TooMany, false), (aC_NoPattern, false), (aC_BadNumber, false), (aC_BadOffers, false), (aC_BadWishes, false), (aC_Contrary, false), (aC_NothingToUndo, false), (aC_NothingToRedo, false), (aC_NoTrial, false), (aC_BadJournal, false), (aC_BadLine, false)]
abbrev tb_OtherTongue : List (Addr × Bool) := [(aC_MetreError, false), (aC_BadTongue, false), (aC_NoWord, false), (aC_NoMetre, false), (aC_BadMeasure, false), (aC_BadVerse, false), (aC_BadRow, false), (aC_BadNotes, false), (aC_BadNote, false), (aC_Full, false), (aC_NoNote, false), (aC_OtherTongue, true), (aC_NoMeasure, false), (aC_BadClaim, false), (aC_Crowded, false), (aC_TooMany, false), (aC_NoPattern, false), (aC_BadNumber, false), (aC_BadOffers, false), (aC_BadWishes, false), (aC_Contrary, false), (aC_NothingToUndo, false), (aC_NothingToRedo, false), (aC_NoTrial, false), (aC_BadJournal, false), (aC_BadLine, false)]
abbrev tb_NoMeasure : List (Addr × Bool) := [(aC_MetreError, false), (aC_BadTongue, false), (aC_NoWord, false), (aC_NoMetre, false), (aC_BadMeasure, false), (aC_BadVerse, false), (aC_BadRow, false), (aC_BadNotes, false), (aC_BadNote, false), (aC_Full, false), (aC_NoNote, false), (aC_OtherTongue, false), (aC_NoMeasure, true), (aC_BadClaim, false), (aC_Crowded, false), (aC_TooMany, false), (aC_NoPattern, false), (aC_BadNumber, false), (aC_BadOffers, false), (aC_BadWishes, false), (aC_Contrary, false), (aC_NothingToUndo, false), (aC_NothingToRedo, false), (aC_NoTrial, false), (aC_BadJournal, false), (aC_BadLine, false)]
abbrev tb_BadClaim : List (Addr × Bool) := [(aC_MetreError, false), (aC_BadTongue, false), (aC_NoWord, false), (aC_NoMetre, false), (aC_BadMeasure, false), (aC_BadVerse, false), (aC_BadRow, false), (aC_BadNotes, false), (aC_BadNote, false), (aC_Full, false), (aC_NoNote, false), (aC_OtherTongue, false), (aC_NoMeasure, false), (aC_BadClaim, true), (aC_Crowded, false), (aC_TooMany, false), (aC_NoPattern, false), (aC_BadNumber, false), (aC_BadOffers, false), (aC_BadWishes, false), (aC_Contrary, false), (aC_NothingToUndo, false), (aC_NothingToRedo, false), (aC_NoTrial, false), (aC_BadJournal, false), (aC_BadLine, false)]
abbrev tb_Crowded : List (Addr × Bool) := [(aC_MetreError, false), (aC_BadTongue, false), (aC_NoWord, false), (aC_NoMetre, false), (aC_BadMeasure, false), (aC_BadVerse, false), (aC_BadRow, false), (aC_BadNotes, false), (aC_BadNote, false), (aC_Full, false), (aC_NoNote, false), (aC_OtherTongue, false), (aC_NoMeasure, false), (aC_BadClaim, false), (aC_Crowded, true), (aC_TooMany, false), (aC_NoPattern, false), (aC_BadNumber, false), (aC_BadOffers, false), (aC_BadWishes, false), (aC_Contrary, false), (aC_NothingToUndo, false), (aC_NothingToRedo, false), (aC_NoTrial, false), (aC_BadJournal, false), (aC_BadLine, false)]
abbrev tb_TooMany : List (Addr × Bool) := [(aC_MetreError, false), (aC_BadTongue, false), (aC_NoWord, false), (aC_NoMetre, false), (aC_BadMeasure, false), (aC_BadVerse, false), (aC_BadRow, false), (aC_BadNotes, false), (aC_BadNote, false), (aC_Full, false), (aC_NoNote, false), (aC_OtherTongue, false), (aC_NoMeasure, false), (aC_BadClaim, false), (aC_Crowded, false), (aC_TooMany, true), (aC_NoPattern, false), (aC_BadNumber, false), (aC_BadOffers, false), (aC_BadWishes, false), (aC_Contrary, false), (aC_NothingToUndo, false), (aC_NothingToRedo, false), (aC_NoTrial, false), (aC_BadJournal, false), (aC_BadLine, false)]
abbrev tb_NoPattern : List (Addr × Bool) := [(aC_MetreError, false), (aC_BadTongue, false), (aC_NoWord, false), (aC_NoMetre, false), (aC_BadMeasure, false), (aC_BadVerse, false), (aC_BadRow, false), (aC_BadNotes, false), (aC_BadNote, false), (aC_Full, false), (aC_NoNote, false), (aC_OtherTongue, false), (aC_NoMeasure, false), (aC_BadClaim, false), (aC_Crowded, false), (aC_TooMany, false), (aC_NoPattern, true), (aC_BadNumber, false), (aC_BadOffers, false), (aC_BadWishes, false), (aC_Contrary, false), (aC_NothingToUndo, false), (aC_NothingToRedo, false), (aC_NoTrial, false), (aC_BadJournal, false), (aC_BadLine, false)]
abbrev tb_BadNumber : List (Addr × Bool) := [(aC_MetreError, false), (aC_BadTongue, false), (aC_NoWord, false), (aC_NoMetre, false), (aC_BadMeasure, false), (aC_BadVerse, false), (aC_BadRow, false), (aC_BadNotes, false), (aC_BadNote, false), (aC_Full, false), (aC_NoNote, false), (aC_OtherTongue, false), (aC_NoMeasure, false), (aC_BadClaim, false), (aC_Crowded, false), (aC_TooMany, false), (aC_NoPattern, false), (aC_BadNumber, true), (aC_BadOffers, false), (aC_BadWishes, false), (aC_Contrary, false), (aC_NothingToUndo, false), (aC_NothingToRedo, false), (aC_NoTrial, false), (aC_BadJournal, false), (aC_BadLine, false)]
abbrev tb_BadOffers : List (Addr × Bool) := [(aC_MetreError, false), (aC_BadTongue, false), (aC_NoWord, false), (aC_NoMetre, false), (aC_BadMeasure, false), (aC_BadVerse, false), (aC_BadRow, false), (aC_BadNotes, false), (aC_BadNote, false), (aC_Full, false), (aC_NoNote, false), (aC_OtherTongue, false), (aC_NoMeasure, false), (aC_BadClaim, false), (aC_Crowded, false), (aC_TooMany, false), (aC_NoPattern, false), (aC_BadNumber, false), (aC_BadOffers, true), (aC_BadWishes, false), (aC_Contrary, false), (aC_NothingToUndo, false), (aC_NothingToRedo, false), (aC_NoTrial, false), (aC_BadJournal, false), (aC_BadLine, false)]
abbrev tb_BadWishes : List (Addr × Bool) := [(aC_MetreError, false), (aC_BadTongue, false), (aC_NoWord, false), (aC_NoMetre, false), (aC_BadMeasure, false), (aC_BadVerse, false), (aC_BadRow, false), (aC_BadNotes, false), (aC_BadNote, false), (aC_Full, false), (aC_NoNote, false), (aC_OtherTongue, false), (aC_NoMeasure, false), (aC_BadClaim, false), (aC_Crowded, false), (aC_TooMany, false), (aC_NoPattern, false), (aC_BadNumber, false), (aC_BadOffers, false), (aC_BadWishes, true), (aC_Contrary, false), (aC_NothingToUndo, false), (aC_NothingToRedo, false), (aC_NoTrial, false), (aC_BadJournal, false), (aC_BadLine, false)]
abbrev tb_Contrary : List (Addr × Bool) := [(aC_MetreError, false), (aC_BadTongue, false), (aC_NoWord, false), (aC_NoMetre, false), (aC_BadMeasure, false), (aC_BadVerse, false), (aC_BadRow, false), (aC_BadNotes, false), (aC_BadNote, false), (aC_Full, false), (aC_NoNote, false), (aC_OtherTongue, false), (aC_NoMeasure, false), (aC_BadClaim, false), (aC_Crowded, false), (aC_TooMany, false), (aC_NoPattern, false), (aC_BadNumber, false), (aC_BadOffers, false), (aC_BadWishes, false), (aC_Contrary, true), (aC_NothingToUndo, false), (aC_NothingToRedo, false), (aC_NoTrial, false), (aC_BadJournal, false), (aC_BadLine, false)]
abbrev tb_NothingToUndo : List (Addr × Bool) := [(aC_MetreError, false), (aC_BadTongue, false), (aC_NoWord, false), (aC_NoMetre, false), (aC_BadMeasure, false), (aC_BadVerse, false), (aC_BadRow, false), (aC_BadNotes, false), (aC_BadNote, false), (aC_Full, false), (aC_NoNote, false), (aC_OtherTongue, false), (aC_NoMeasure, false), (aC_BadClaim, false), (aC_Crowded, false), (aC_TooMany, false), (aC_NoPattern, false), (aC_BadNumber, false), (aC_BadOffers, false), (aC_BadWishes, false), (aC_Contrary, false), (aC_NothingToUndo, true), (aC_NothingToRedo, false), (aC_NoTrial, false), (aC_BadJournal, false), (aC_BadLine, false)]
abbrev tb_NothingToRedo : List (Addr × Bool) := [(aC_MetreError, false), (aC_BadTongue, false), (aC_NoWord, false), (aC_NoMetre, false), (aC_BadMeasure, false), (aC_BadVerse, false), (aC_BadRow, false), (aC_BadNotes, false), (aC_BadNote, false), (aC_Full, false), (aC_NoNote, false), (aC_OtherTongue, false), (aC_NoMeasure, false), (aC_BadClaim, false), (aC_Crowded, false), (aC_TooMany, false), (aC_NoPattern, false), (aC_BadNumber, false), (aC_BadOffers, false), (aC_BadWishes, false), (aC_Contrary, false), (aC_NothingToUndo, false), (aC_NothingToRedo, true), (aC_NoTrial, false), (aC_BadJournal, false), (aC_BadLine, false)]
abbrev tb_NoTrial : List (Addr × Bool) := [(aC_MetreError, false), (aC_BadTongue, false), (aC_NoWord, false), (aC_NoMetre, false), (aC_BadMeasure, false), (aC_BadVerse, false), (aC_BadRow, false), (aC_BadNotes, false), (aC_BadNote, false), (aC_Full, false), (aC_NoNote, false), (aC_OtherTongue, false), (aC_NoMeasure, false), (aC_BadClaim, false), (aC_Crowded, false), (aC_TooMany, false), (aC_NoPattern, false), (aC_BadNumber, false), (aC_BadOffers, false), (aC_BadWishes, false), (aC_Contrary, false), (aC_NothingToUndo, false), (aC_NothingToRedo, false), (aC_NoTrial, true), (aC_BadJournal, false), (aC_BadLine, false)]
abbrev tb_BadJournal : List (Addr × Bool) := [(aC_MetreError, false), (aC_BadTongue, false), (aC_NoWord, false), (aC_NoMetre, false), (aC_BadMeasure, false), (aC_BadVerse, false), (aC_BadRow, false), (aC_BadNotes, false), (aC_BadNote, false), (aC_Full, false), (aC_NoNote, false), (aC_OtherTongue, false), (aC_NoMeasure, false), (aC_BadClaim, false), (aC_Crowded, false), (aC_TooMany, false), (aC_NoPattern, false), (aC_BadNumber, false), (aC_BadOffers, false), (aC_BadWishes, false), (aC_Contrary, false), (aC_NothingToUndo, false), (aC_NothingToRedo, false), (aC_NoTrial, false), (aC_BadJournal, true), (aC_BadLine, false)]
abbrev tb_BadLine : List (Addr × Bool) := [(aC_MetreError, false), (aC_BadTongue, false), (aC_NoWord, false), (aC_NoMetre, false), (aC_BadMeasure, false), (aC_BadVerse, false), (aC_BadRow, false), (aC_BadNotes, false), (aC_BadNote, false), (aC_Full, false), (aC_NoNote, false), (aC_OtherTongue, false), (aC_NoMeasure, false), (aC_BadClaim, false), (aC_Crowded, false), (aC_TooMany, false), (aC_NoPattern, false), (aC_BadNumber, false), (aC_BadOffers, false), (aC_BadWishes, false), (aC_Contrary, false), (aC_NothingToUndo, false), (aC_NothingToRedo, false), (aC_NoTrial, false), (aC_BadJournal, false), (aC_BadLine, true)]
abbrev xfs : XfL := [(fun K => He.ma K aC_MetreError "__init__", xiFn 5 18)]
abbrev s__law_places : Stmt := top 31
abbrev s__law_take : Stmt := top 29
abbrev s__law_of : Stmt := top 30
abbrev s__law_odd : Stmt := top 32
abbrev s__law_made : Stmt := top 33
abbrev s__law_marks : Stmt := top 34
abbrev s__law_right : Stmt := top 35
abbrev s__law_pot : Stmt := top 28
abbrev s_law : Stmt := top 36
def exs : ExL := [faB (.free "len"),
  faB (.free "min"),
  faB (.free "max"),
  faB (.free "list"),
  faB (.free "range"),
  faB (.glo "_law_places"),
  faB (.free "int"),
  faB (.glo "_law_take"),
  faB (.glo "_law_of"),
  faB (.glo "_law_odd"),
  (fun K => exL.all fun C => xcB aC_MetreError C K),
  gloB "BadTongue" aC_BadTongue,
  gloB "NoWord" aC_NoWord,
  gloB "NoMetre" aC_NoMetre,
  gloB "BadMeasure" aC_BadMeasure,
  gloB "BadVerse" aC_BadVerse,
  gloB "BadRow" aC_BadRow,
  gloB "BadNotes" aC_BadNotes,
  gloB "BadNote" aC_BadNote,
  gloB "Full" aC_Full,
  gloB "NoNote" aC_NoNote,
  gloB "OtherTongue" aC_OtherTongue,
  gloB "NoMeasure" aC_NoMeasure,
  gloB "BadClaim" aC_BadClaim,
  gloB "Crowded" aC_Crowded,
  gloB "TooMany" aC_TooMany,
  gloB "NoPattern" aC_NoPattern,
  gloB "BadNumber" aC_BadNumber,
  gloB "BadOffers" aC_BadOffers,
  gloB "BadWishes" aC_BadWishes,
  gloB "Contrary" aC_Contrary,
  gloB "NothingToUndo" aC_NothingToUndo,
  gloB "NothingToRedo" aC_NothingToRedo,
  gloB "NoTrial" aC_NoTrial,
  gloB "BadJournal" aC_BadJournal,
  gloB "BadLine" aC_BadLine,
  faB (.glo "_law_made"),
  faB (.free "enumerate"),
  (fun K => exL.all fun C => eiB C K),
  (fun K => decide (∀ q ∈ tb_MetreError, PySem.W.kitOne K (.ref q.1) (.ref aC_MetreError) = some q.2)),
  (fun K => decide (PySem.W.kitOne K (.type "NoneType") (.ref aC_MetreError) = some false)),
  gloB "MetreError" aC_MetreError,
  faB (.free "isinstance"),
  (fun K => decide (∀ q ∈ tb_ValueError, PySem.W.kitOne K (.ref q.1) (.type "ValueError") = some q.2)),
  (fun K => decide (PySem.W.kitOne K (.type "NoneType") (.type "ValueError") = some false)),
  faB (.free "ValueError"),
  (fun K => (K.lookup sysModules).isSome),
  faB (.free "repr"),
  (fun K => decide (∀ q ∈ tb_BadTongue, PySem.W.kitOne K (.ref q.1) (.ref aC_BadTongue) = some q.2)),
  (fun K => decide (PySem.W.kitOne K (.type "NoneType") (.ref aC_BadTongue) = some false)),
  (fun K => decide (∀ q ∈ tb_NoWord, PySem.W.kitOne K (.ref q.1) (.ref aC_NoWord) = some q.2)),
  (fun K => decide (PySem.W.kitOne K (.type "NoneType") (.ref aC_NoWord) = some false)),
  (fun K => decide (∀ q ∈ tb_NoMetre, PySem.W.kitOne K (.ref q.1) (.ref aC_NoMetre) = some q.2)),
  (fun K => decide (PySem.W.kitOne K (.type "NoneType") (.ref aC_NoMetre) = some false)),
  (fun K => decide (∀ q ∈ tb_BadMeasure, PySem.W.kitOne K (.ref q.1) (.ref aC_BadMeasure) = some q.2)),
  (fun K => decide (PySem.W.kitOne K (.type "NoneType") (.ref aC_BadMeasure) = some false)),
  (fun K => decide (∀ q ∈ tb_BadVerse, PySem.W.kitOne K (.ref q.1) (.ref aC_BadVerse) = some q.2)),
  (fun K => decide (PySem.W.kitOne K (.type "NoneType") (.ref aC_BadVerse) = some false)),
  (fun K => decide (∀ q ∈ tb_BadRow, PySem.W.kitOne K (.ref q.1) (.ref aC_BadRow) = some q.2)),
  (fun K => decide (PySem.W.kitOne K (.type "NoneType") (.ref aC_BadRow) = some false)),
  (fun K => decide (∀ q ∈ tb_BadNotes, PySem.W.kitOne K (.ref q.1) (.ref aC_BadNotes) = some q.2)),
  (fun K => decide (PySem.W.kitOne K (.type "NoneType") (.ref aC_BadNotes) = some false)),
  (fun K => decide (∀ q ∈ tb_BadNote, PySem.W.kitOne K (.ref q.1) (.ref aC_BadNote) = some q.2)),
  (fun K => decide (PySem.W.kitOne K (.type "NoneType") (.ref aC_BadNote) = some false)),
  (fun K => decide (∀ q ∈ tb_Full, PySem.W.kitOne K (.ref q.1) (.ref aC_Full) = some q.2)),
  (fun K => decide (PySem.W.kitOne K (.type "NoneType") (.ref aC_Full) = some false)),
  (fun K => decide (∀ q ∈ tb_NoNote, PySem.W.kitOne K (.ref q.1) (.ref aC_NoNote) = some q.2)),
  (fun K => decide (PySem.W.kitOne K (.type "NoneType") (.ref aC_NoNote) = some false)),
  (fun K => decide (∀ q ∈ tb_OtherTongue, PySem.W.kitOne K (.ref q.1) (.ref aC_OtherTongue) = some q.2)),
  (fun K => decide (PySem.W.kitOne K (.type "NoneType") (.ref aC_OtherTongue) = some false)),
  (fun K => decide (∀ q ∈ tb_NoMeasure, PySem.W.kitOne K (.ref q.1) (.ref aC_NoMeasure) = some q.2)),
  (fun K => decide (PySem.W.kitOne K (.type "NoneType") (.ref aC_NoMeasure) = some false)),
  (fun K => decide (∀ q ∈ tb_BadClaim, PySem.W.kitOne K (.ref q.1) (.ref aC_BadClaim) = some q.2)),
  (fun K => decide (PySem.W.kitOne K (.type "NoneType") (.ref aC_BadClaim) = some false)),
  (fun K => decide (∀ q ∈ tb_Crowded, PySem.W.kitOne K (.ref q.1) (.ref aC_Crowded) = some q.2)),
  (fun K => decide (PySem.W.kitOne K (.type "NoneType") (.ref aC_Crowded) = some false)),
  (fun K => decide (∀ q ∈ tb_TooMany, PySem.W.kitOne K (.ref q.1) (.ref aC_TooMany) = some q.2)),
  (fun K => decide (PySem.W.kitOne K (.type "NoneType") (.ref aC_TooMany) = some false)),
  (fun K => decide (∀ q ∈ tb_NoPattern, PySem.W.kitOne K (.ref q.1) (.ref aC_NoPattern) = some q.2)),
  (fun K => decide (PySem.W.kitOne K (.type "NoneType") (.ref aC_NoPattern) = some false)),
  (fun K => decide (∀ q ∈ tb_BadNumber, PySem.W.kitOne K (.ref q.1) (.ref aC_BadNumber) = some q.2)),
  (fun K => decide (PySem.W.kitOne K (.type "NoneType") (.ref aC_BadNumber) = some false)),
  (fun K => decide (∀ q ∈ tb_BadOffers, PySem.W.kitOne K (.ref q.1) (.ref aC_BadOffers) = some q.2)),
  (fun K => decide (PySem.W.kitOne K (.type "NoneType") (.ref aC_BadOffers) = some false)),
  (fun K => decide (∀ q ∈ tb_BadWishes, PySem.W.kitOne K (.ref q.1) (.ref aC_BadWishes) = some q.2)),
  (fun K => decide (PySem.W.kitOne K (.type "NoneType") (.ref aC_BadWishes) = some false)),
  (fun K => decide (∀ q ∈ tb_Contrary, PySem.W.kitOne K (.ref q.1) (.ref aC_Contrary) = some q.2)),
  (fun K => decide (PySem.W.kitOne K (.type "NoneType") (.ref aC_Contrary) = some false)),
  (fun K => decide (∀ q ∈ tb_NothingToUndo, PySem.W.kitOne K (.ref q.1) (.ref aC_NothingToUndo) = some q.2)),
  (fun K => decide (PySem.W.kitOne K (.type "NoneType") (.ref aC_NothingToUndo) = some false)),
  (fun K => decide (∀ q ∈ tb_NothingToRedo, PySem.W.kitOne K (.ref q.1) (.ref aC_NothingToRedo) = some q.2)),
  (fun K => decide (PySem.W.kitOne K (.type "NoneType") (.ref aC_NothingToRedo) = some false)),
  (fun K => decide (∀ q ∈ tb_NoTrial, PySem.W.kitOne K (.ref q.1) (.ref aC_NoTrial) = some q.2)),
  (fun K => decide (PySem.W.kitOne K (.type "NoneType") (.ref aC_NoTrial) = some false)),
  (fun K => decide (∀ q ∈ tb_BadJournal, PySem.W.kitOne K (.ref q.1) (.ref aC_BadJournal) = some q.2)),
  (fun K => decide (PySem.W.kitOne K (.type "NoneType") (.ref aC_BadJournal) = some false)),
  (fun K => decide (∀ q ∈ tb_BadLine, PySem.W.kitOne K (.ref q.1) (.ref aC_BadLine) = some q.2)),
  (fun K => decide (PySem.W.kitOne K (.type "NoneType") (.ref aC_BadLine) = some false)),
  faB (.glo "_law_marks"),
  faB (.free "any"),
  faB (.glo "_law_right"),
  faB (.free "abs"),
  faB (.glo "_law_pot"),
  faB (.free "all"),
  xiB PySem.Challenge.pw_lostmetres_k00_errors_keep_their_values aC_MetreError,
  cellB 18 aC_MetreError,
  xiKB aC_MetreError,
  bltB,
  (fun K => decide (tabsK K = tabL)),
  faB (.glo "law")]
def fns : List He5.DefA := [⟨fun K => He.ga K "_law_places", "_law_places", "_law_places", defArgs s__law_places, defBody s__law_places, defScope s__law_places, [], []⟩,
  ⟨fun K => He.ga K "_law_take", "_law_take", "_law_take", defArgs s__law_take, defBody s__law_take, defScope s__law_take, [], []⟩,
  ⟨fun K => He.ga K "_law_of", "_law_of", "_law_of", defArgs s__law_of, defBody s__law_of, defScope s__law_of, [], []⟩,
  ⟨fun K => He.ga K "_law_odd", "_law_odd", "_law_odd", defArgs s__law_odd, defBody s__law_odd, defScope s__law_odd, [], []⟩,
  ⟨fun K => He.ga K "_law_made", "_law_made", "_law_made", defArgs s__law_made, defBody s__law_made, defScope s__law_made, [], []⟩,
  ⟨fun K => He.ga K "_law_marks", "_law_marks", "_law_marks", defArgs s__law_marks, defBody s__law_marks, defScope s__law_marks, [], []⟩,
  ⟨fun K => He.ga K "_law_right", "_law_right", "_law_right", defArgs s__law_right, defBody s__law_right, defScope s__law_right, [], []⟩,
  ⟨fun K => He.ga K "_law_pot", "_law_pot", "_law_pot", defArgs s__law_pot, defBody s__law_pot, defScope s__law_pot, [], []⟩,
  ⟨fun K => He.ga K "law", "law", "law", defArgs s_law, defBody s_law, defScope s_law, [], []⟩]
end G
namespace G
open PySem PySem.W PySem.Calls PyProof.Rows DL
abbrev R : OpenRow := OpenLaw.row PySem.Challenge.rw_lostmetres_k00_errors_keep_their_values
abbrev qv : Program := view R.prog [36]
def names0 : List PySem.Str := ["MetreError", "BadTongue", "NoWord", "NoMetre", "BadMeasure", "BadVerse", "BadRow", "BadNotes", "BadNote", "Full", "NoNote", "OtherTongue", "NoMeasure", "BadClaim", "Crowded", "TooMany", "NoPattern", "BadNumber", "BadOffers", "BadWishes", "Contrary", "NothingToUndo", "NothingToRedo", "NoTrial", "BadJournal", "BadLine", "_law_pot", "_law_take", "_law_of", "_law_places"]
def names1 : List PySem.Str := ["_law_odd", "_law_made", "_law_marks", "_law_right"]
def names : List PySem.Str := names0 ++ names1
def adrs : List Addr := (List.range 396).filter fun a => !tbs.contains a
theorem run (w : World) : HandSHeadRun.RunEq R qv (hookT tbs xfs adrs exs fns) (obT tbs xfs adrs exs fns) 8000 names w := by
  intro os
  kernel_rfl
end G
namespace DL
open PySem PySem.Spec PyProof.Rows L2
section
variable {ν : Nu} {n : Nat}
/-- what is reckoned with letters, an exception too, is so of the names -/
def SX {α : Type} (ν : Nu) (g : α → α) (x y : Rz α) : Prop := (∀ a μ, x = .ok a μ → y = .ok (g a) (gM ν μ)) ∧ ∀ C v μ, x = .err C v μ → y = .err C (gP ν v) (gM ν μ)
theorem SX.ok {α : Type} {g : α → α} {a : α} {μ : Sto} {y : Rz α} (h : y = .ok (g a) (gM ν μ)) : SX ν g (.ok a μ) y := ⟨fun _ _ e => (by cases e; exact h), fun _ _ _ e => (nomatch e)⟩
theorem SX.bad {α : Type} {g : α → α} {y : Rz α} : SX ν g .bad y := ⟨fun _ _ e => (nomatch e), fun _ _ _ e => (nomatch e)⟩
theorem SX.err {α : Type} {g : α → α} {y : Rz α} {C : Addr} {v : PV} {μ : Sto} (h : y = .err C (gP ν v) (gM ν μ)) : SX ν g (.err C v μ) y := ⟨fun _ _ e => (nomatch e), fun _ _ _ e => (by cases e; exact h)⟩
theorem SX.bind {α β : Type} {ga : α → α} {gb : β → β} {x y : Rz α} {f f' : α → Sto → Rz β} (h : SX ν ga x y) (hf : ∀ a μ, SX ν gb (f a μ) (f' (ga a) (gM ν μ))) : SX ν gb (x.bind f) (y.bind f') := by
  cases x with
  | ok a μ => rw [h.1 a μ rfl]; exact hf a μ
  | err C v μ => rw [h.2 C v μ rfl]; exact SX.err rfl
  | bad => exact SX.bad
theorem SX.calm {α : Type} {g : α → α} {x y : Rz α} (h : SG ν g x y) : SX ν g (calmR x) (calmR y) := by
  cases x with
  | ok a μ => rw [h a μ rfl]; exact SX.ok rfl
  | err C v μ => exact SX.bad
  | bad => exact SX.bad
end
end DL
namespace DL
open PySem PySem.Spec PyProof.Rows L2
/-- the list that was given, behind the call -/
noncomputable def awayBack (i : Nat) (μ : Sto) (p : PV) (o : Option MObj) : Rz PV := match o with
  | some (.lst qs) => if bareL qs = true ∧ bareP p = true then .ok p (μ.set i (.lst qs)) else .bad
  | _ => .bad
noncomputable def awayAt (F : VF) (i : Nat) (rest : List PV) (μ : Sto) (o : Option MObj) : Rz PV := match o with
  | some (.lst ps) => if bareL ps = true ∧ bareL rest = true then match F (.ref 0 :: rest) [.lst ps] with
      | .ok p μ' => awayBack i μ p (nth μ' 0)
      | _ => .bad
    else .bad
  | _ => .bad
noncomputable def vAway (F : VF) : VF := fun xs μ => match xs with
  | .ref i :: rest => awayAt F i rest μ (nth μ i)
  | _ => .bad
section
variable {P : Program} {w : World} {K : PySem.W.Frag}
theorem away_of {F : VF} {vs : List V} {H : Hp} {Q : VK} (h : rL P w K EW0 (vAway F) vs H Q) : rL P w K EW0 F vs H Q := by
  obtain ⟨ρ, μ, ps, r, t, h⟩ := h
  unfold vAway at h
  split at h
  · rename_i i rest
    cases r with
    | cons r1 r2 =>
    cases r1 with
    | ref hi =>
    rename_i a
    unfold awayAt at h
    split at h
    · rename_i o ps eo
      split at h
      · rename_i c
        obtain ⟨c1, c2⟩ := c
        rw [nth_eq] at eo
        have am : a ∈ ρ := List.mem_of_getElem? hi
        obtain ⟨ws, ea, rs⟩ := t.obj i a _ hi eo
        refine ⟨[a], [.lst ps], .ref 0 :: rest, .cons (.ref rfl) (bare_rvs c2 r2), ⟨rfl, by simp, fun j b o' hj ho => ?_, fun p hp => (t.tab p hp).sub fun x hx => by rw [List.mem_singleton.mp hx]; exact am⟩, ?_⟩
        · match j, hj, ho with
          | 0, hj, ho =>
            cases hj
            cases ho
            exact ⟨ws, ea, bare_rvs c1 rs⟩
          | j + 1, hj, ho => simp at hj
        · cases e : F (.ref 0 :: rest) [.lst ps] with
          | ok p μ' =>
            rw [e] at h
            have h : Post P w K EW0 ρ H (awayBack i μ p (nth μ' 0)) (RV K) Q := h
            unfold awayBack at h
            split at h
            · rename_i o2 qs eq
              split at h
              · rename_i c3
                obtain ⟨c3, c4⟩ := c3
                rw [nth_eq] at eq
                intro ρ' x H' st rx t'
                obtain ⟨more, em, _⟩ := st.ext
                have h0 : ρ'[0]? = some a := by rw [em]; rfl
                obtain ⟨us, eu, ru⟩ := t'.obj 0 a _ h0 eq
                have kept : ∀ b ∈ ρ, b ≠ a → ∀ u, H b = some u → H' b = some u := fun b hb hne u e => by
                  obtain ⟨u2, e2, n⟩ := t.nc hb
                  rw [e] at e2
                  cases e2
                  exact st.keep b u e (by simpa using hne) n.2
                have nc : ∀ b ∈ ρ, ∃ u, H' b = some u ∧ NC b u := fun b hb => by
                  by_cases hne : b = a
                  · subst hne
                    exact t'.nc (List.mem_of_getElem? h0)
                  · obtain ⟨u, e, n⟩ := t.nc hb
                    exact ⟨u, kept b hb hne u e, n⟩
                have st2 : Step K ρ H ρ H' := ⟨⟨[], (List.append_nil ρ).symm, fun _ h => by cases h⟩, fun b o e hb n => st.keep b o e (fun z => hb (by rw [List.mem_singleton.mp z]; exact am)) n, st.tup, st.live, st.dct, st.fz, fun p hp h => (st.tbl p hp (h.sub fun x hx => by rw [List.mem_singleton.mp hx]; exact am)).renum nc⟩
                refine h ρ x H' st2 (bare_rv c4 rx) ⟨by rw [List.length_set]; exact t.len, t.nd, fun j b o' hj ho => ?_, fun p hp => st2.tbl _ hp (t.tab p hp)⟩
                by_cases hji : j = i
                · subst hji
                  rw [List.getElem?_set_self (by rw [t.len]; exact (List.getElem?_eq_some_iff.mp hi).1)] at ho
                  cases ho
                  rw [hi] at hj
                  cases hj
                  exact ⟨us, eu, bare_rvs c3 ru⟩
                · rw [List.getElem?_set_ne (Ne.symm hji)] at ho
                  refine (t.obj j b o' hj ho).step st2.grow (kept b (List.mem_of_getElem? hj) fun z => hji ?_)
                  subst z
                  have l1 := (List.getElem?_eq_some_iff.mp hj)
                  have l2 := (List.getElem?_eq_some_iff.mp hi)
                  obtain ⟨l1, q1⟩ := l1
                  obtain ⟨l2, q2⟩ := l2
                  exact (List.getElem_inj t.nd).mp (q1.trans q2.symm)
              · exact h.elim
            · exact h.elim
          | err C v μ' => rw [e] at h; exact h.elim
          | bad => rw [e] at h; exact h.elim
      · exact h.elim
    · exact h.elim
  · exact h.elim
theorem away_ar {n : Nat} {F : VF} (a : Ar n F) : Ar n (vAway F) := fun ps μ h => by
  unfold vAway
  split
  · rename_i i rest
    unfold awayAt
    split
    · rw [a (.ref 0 :: rest) _ (by simpa using h)]
      split <;> rfl
    · rfl
  · rfl
variable {mg : Str → Option Value} {base : Heap} {k : Nat} {f : Addr} {ps : List Str}
theorem Has.away {F : VF} (h : Has P w K mg base k f ps F) : Has P w K mg base k f ps (vAway F) :=
  let ⟨⟨fd, b, G⟩, kp, ar⟩ := h
  ⟨⟨fd, b, G.imp fun vs H Q E h => ⟨h.1, away_of h.2⟩⟩, kp, away_ar ar⟩
theorem HasG.away {F : VF} (h : HasG P w K mg base k f ps F) : HasG P w K mg base k f ps (vAway F) :=
  let ⟨⟨fd, b, G⟩, kp, ar⟩ := h
  ⟨⟨fd, b, ⟨fun vs H Q E h => h.1, fun A outer s H args us vs Q E a b c d e z => G.run A outer s H args us vs Q E a b c d e ⟨z.1, away_of z.2⟩⟩⟩, kp, away_ar ar⟩
end
theorem away_at {F : VF} {i : Nat} {rest : List PV} {μ : Sto} {ps qs : List PV} {p : PV} (h : vAway F (.ref 0 :: rest) [.lst ps] = Rz.ok p [.lst qs]) (hi : μ[i]? = some (.lst ps)) : vAway F (.ref i :: rest) μ = .ok p (μ.set i (.lst qs)) := by
  have h : (if bareL ps = true ∧ bareL rest = true then match F (.ref 0 :: rest) [.lst ps] with | .ok p μ' => awayBack 0 [.lst ps] p (nth μ' 0) | _ => .bad else .bad) = Rz.ok p [.lst qs] := h
  show awayAt F i rest μ (nth μ i) = _
  rw [nth_eq, hi]
  show (if bareL ps = true ∧ bareL rest = true then match F (.ref 0 :: rest) [.lst ps] with | .ok p μ' => awayBack i μ p (nth μ' 0) | _ => .bad else .bad) = _
  by_cases c : bareL ps = true ∧ bareL rest = true
  · rw [if_pos c] at h ⊢
    cases e : F (.ref 0 :: rest) [.lst ps] with
    | ok p1 μ1 =>
      rw [e] at h
      have h : awayBack 0 [.lst ps] p1 (nth μ1 0) = Rz.ok p [.lst qs] := h
      show awayBack i μ p1 (nth μ1 0) = _
      unfold awayBack at h ⊢
      split at h
      · rename_i qs2 eq
        split at h
        · rename_i c3
          have h : Rz.ok p1 [MObj.lst qs2] = Rz.ok p [.lst qs] := h
          cases h
          exact if_pos c3
        · cases h
      · cases h
    | err C v μ1 => rw [e] at h; cases h
    | bad => rw [e] at h; cases h
  · rw [if_neg c] at h
    cases h
end DL
namespace DL
open PySem PySem.Spec PyProof.Rows L2
def pdatD (μ : Sto) : Nat → PV → Option PyData
  | 0 => fun p => match p with
    | .non => some .none
    | .bl b => some (.bool b)
    | .int i => some (.int i)
    | .str x => some (.str x)
    | _ => none
  | n + 1 => fun p => match p with
    | .non => some .none
    | .bl b => some (.bool b)
    | .int i => some (.int i)
    | .str x => some (.str x)
    | .tup ps => (pdatL (pdatD μ n) ps).map .tuple
    | .ref i => match seqAt μ i with
      | some ps => (pdatL (pdatD μ n) ps).map .list
      | none => match dctAt μ i with
        | some kvs => match pdatL (pdatD μ n) (kvs.map (·.1)), pdatL (pdatD μ n) (kvs.map (·.2)) with
          | some ks, some ds => some (.dict (ks.zip ds))
          | _, _ => none
        | none => none
    | _ => none
theorem pdatL_len {f : PV → Option PyData} : ∀ {ps : List PV} {ds : List PyData}, pdatL f ps = some ds → ds.length = ps.length
  | [], _, h => by cases h; rfl
  | p :: ps, ds, h => by
    unfold pdatL at h
    cases e : f p with
    | none => rw [e] at h; cases h
    | some d =>
      rw [e] at h
      cases e2 : pdatL f ps with
      | none => rw [e2] at h; cases h
      | some ds2 =>
        rw [e2] at h
        cases h
        rw [List.length_cons, List.length_cons, pdatL_len e2]
theorem pdatL_cons {f : PV → Option PyData} {p : PV} {ps : List PV} {ds : List PyData} (h : pdatL f (p :: ps) = some ds) : ∃ d r, ds = d :: r ∧ f p = some d ∧ pdatL f ps = some r := by
  unfold pdatL at h
  cases e : f p with
  | none => rw [e] at h; cases h
  | some d =>
    rw [e] at h
    cases e2 : pdatL f ps with
    | none => rw [e2] at h; cases h
    | some ds2 =>
      rw [e2] at h
      cases h
      exact ⟨d, ds2, rfl, rfl, rfl⟩
section
variable {X : Cx} {pins : List (Addr × Obj)} {σ : L2.St} {H : Hp} {s : Shared} {ρ : List Addr} {μ : Sto}
/-- what is read of a value: without the modules' own dict -/
abbrev RdV (s : Shared) (u : Value) (d : PyData) : Prop := ∃ as, Reads s.heap u d as ∧ sysModules ∉ as
theorem reads_all {f : PV → Option PyData} (hf : ∀ p v u d, RV X.K ρ H p v → RelV v u → f p = some d → RdV s u d) : ∀ {ps : List PV} {vs : List V} {us : List Value} {ds : List PyData}, RVs X.K ρ H ps vs → Vals vs us → pdatL f ps = some ds → ∃ as, ReadsAll s.heap us ds as ∧ sysModules ∉ as
  | _, _, _, _, .nil, .nil, h => by cases h; exact ⟨_, .nil, by simp⟩
  | _, _, _, _, .cons r t, .cons r2 t2, h => by
    obtain ⟨d, ds, rfl, e1, e2⟩ := pdatL_cons h
    obtain ⟨as, q1, n1⟩ := hf _ _ _ _ r r2 e1
    obtain ⟨bs, q2, n2⟩ := reads_all hf t t2 e2
    exact ⟨_, .cons q1 q2, by simp [n1, n2]⟩
theorem pairs_all {f : PV → Option PyData} (hf : ∀ p v u d, RV X.K ρ H p v → RelV v u → f p = some d → RdV s u d) (hk : ∀ k : Key, ∀ u d, keyIs k u = true → f (pvK k) = some d → RdV s u d) : ∀ {es : List DictEntry} {vs : List (Key × Value)} {kvs : List (PV × PV)} {ks ds : List PyData},
    Pairs (mixKind X.prog X.w) es vs → Paired (fun (p : PV × PV) (q : Key × Value) => p.1 = pvK q.1 ∧ RVal X.K ρ H p.2 q.2) kvs vs → pdatL f (kvs.map (·.1)) = some ks → pdatL f (kvs.map (·.2)) = some ds →
    (∃ as, ReadsAll s.heap (es.map (·.key)) ks as ∧ sysModules ∉ as) ∧ ∃ bs, ReadsAll s.heap (es.map (·.val)) ds bs ∧ sysModules ∉ bs
  | _, _, _, _, _, .nil, .nil, h1, h2 => by
    cases h1
    cases h2
    exact ⟨⟨_, .nil, by simp⟩, ⟨_, .nil, by simp⟩⟩
  | _, _, _, _, _, .cons a1 a2 a3, .cons b1 b2, h1, h2 => by
    obtain ⟨k, ks, rfl, e1, e2⟩ := pdatL_cons h1
    obtain ⟨d, ds, rfl, e3, e4⟩ := pdatL_cons h2
    obtain ⟨⟨as, q1, n1⟩, ⟨bs, q2, n2⟩⟩ := pairs_all hf hk a3 b2 e2 e4
    obtain ⟨c1, v, c2, c3⟩ := b1
    dsimp only at e1
    rw [c1] at e1
    obtain ⟨as1, q3, n3⟩ := hk _ _ _ a1 e1
    rw [← a2] at c2
    obtain ⟨bs1, q4, n4⟩ := hf _ _ _ _ c3 c2 e3
    exact ⟨⟨_, .cons q3 q1, by simp [n1, n3]⟩, ⟨_, .cons q4 q2, by simp [n2, n4]⟩⟩
theorem nested_all {f : PV → Option PyData} (hf : ∀ p v u d, RV X.K ρ H p v → RelV v u → f p = some d → RdV s u d) : ∀ {xs : List (NestedKey × Addr × Value)} {kvs : List (PV × PV)} {ks ds : List PyData},
    Paired (fun (p : PV × PV) (q : NestedKey × Addr × Value) => p.1 = pvN q.1 ∧ q.1.depth ≤ 8 ∧ RV X.K ρ H p.1 (.ref q.2.1) ∧ RVal X.K ρ H p.2 q.2.2) kvs xs → pdatL f (kvs.map (·.1)) = some ks → pdatL f (kvs.map (·.2)) = some ds →
    (∃ as, ReadsAll s.heap ((xs.map (entryOfKey (nestedKind X.prog X.w))).map (·.key)) ks as ∧ sysModules ∉ as) ∧ ∃ bs, ReadsAll s.heap ((xs.map (entryOfKey (nestedKind X.prog X.w))).map (·.val)) ds bs ∧ sysModules ∉ bs
  | _, _, _, _, .nil, h1, h2 => by
    cases h1
    cases h2
    exact ⟨⟨_, .nil, by simp⟩, ⟨_, .nil, by simp⟩⟩
  | _, _, _, _, .cons b1 b2, h1, h2 => by
    obtain ⟨k, ks, rfl, e1, e2⟩ := pdatL_cons h1
    obtain ⟨d, ds, rfl, e3, e4⟩ := pdatL_cons h2
    obtain ⟨⟨as, q1, n1⟩, ⟨bs, q2, n2⟩⟩ := nested_all hf b2 e2 e4
    obtain ⟨c1, c2, c3, v, c4, c5⟩ := b1
    obtain ⟨as1, q3, n3⟩ := hf _ _ _ _ c3 (show RelV (.ref _) (.ref _) from rfl) e1
    obtain ⟨bs1, q4, n4⟩ := hf _ _ _ _ c5 c4 e3
    exact ⟨⟨_, .cons q3 q1, by simp [n1, n3]⟩, ⟨_, .cons q4 q2, by simp [n2, n4]⟩⟩
theorem key_reads {μ : Sto} {n : Nat} {k : Key} {u : Value} {d : PyData} (hk : keyIs k u = true) (h : pdatD μ n (pvK k) = some d) : RdV s u d := by
  rcases keyIs_shape hk with ⟨i, t, rfl, rfl⟩ | ⟨x, t, rfl, rfl⟩
  · have : d = .int i := by cases n <;> (cases h; rfl)
    subst this
    exact ⟨_, .int i t, by simp⟩
  · have : d = .str x := by cases n <;> (cases h; rfl)
    subst this
    exact ⟨_, .str x t, by simp⟩
theorem reads_of (I : Inv X pins σ H s) (t : RSt X.prog X.w X.K ρ H μ) (sm : ∃ o, X.K.lookup sysModules = some o) : ∀ (n : Nat) (p : PV) (v : V) (u : Value) (d : PyData), RV X.K ρ H p v → RelV v u → pdatD μ n p = some d → RdV s u d
  | 0, _, _, _, _, r, rv, h => by
    cases r with
    | non => cases h; cases rv; exact ⟨_, .none, by simp⟩
    | bl b => cases h; cases rv; exact ⟨_, .bool b, by simp⟩
    | int i => cases h; obtain ⟨tk, rfl⟩ := rv; exact ⟨_, .int i tk, by simp⟩
    | str x => cases h; obtain ⟨tk, rfl⟩ := rv; exact ⟨_, .str x tk, by simp⟩
    | _ => cases h
  | n + 1, _, _, _, _, r, rv, h => by
    have ih := reads_of I t sm n
    cases r with
    | non => cases h; cases rv; exact ⟨_, .none, by simp⟩
    | bl b => cases h; cases rv; exact ⟨_, .bool b, by simp⟩
    | int i => cases h; obtain ⟨tk, rfl⟩ := rv; exact ⟨_, .int i tk, by simp⟩
    | str x => cases h; obtain ⟨tk, rfl⟩ := rv; exact ⟨_, .str x tk, by simp⟩
    | @tup ps vs a h1 h2 =>
      obtain ⟨ds, e1, rfl⟩ := Option.map_eq_some_iff.mp (show (pdatL (pdatD μ n) ps).map PyData.tuple = some _ from h)
      cases rv
      obtain ⟨its, rvs, ⟨o, ho, hc, m, hd⟩, _⟩ := I.tuple h1
      obtain ⟨as, q, nq⟩ := reads_all ih h2 rvs e1
      exact ⟨_, .tuple ho hc hd q, nq⟩
    | @ref i a ha =>
      cases rv
      have ne : H a ≠ none → a ≠ sysModules := fun hn e => by
        obtain ⟨o, e2⟩ := sm
        subst e
        exact hn (I.bs _ _ (I.ok.mod.kin _ _ e2)).2
      have h : (match seqAt μ i with | some ps => (pdatL (pdatD μ n) ps).map PyData.list | none => match dctAt μ i with
          | some kvs => match pdatL (pdatD μ n) (kvs.map (·.1)), pdatL (pdatD μ n) (kvs.map (·.2)) with
            | some ks, some ds => some (.dict (ks.zip ds))
            | _, _ => none
          | none => none) = some _ := h
      cases e : seqAt μ i with
      | some ps =>
        rw [e] at h
        obtain ⟨ds, e1, rfl⟩ := Option.map_eq_some_iff.mp h
        obtain ⟨vs, h1, h2⟩ := seqAt_of t ha e
        obtain ⟨its, rvs, ⟨o, m, ho, hc, _, hd⟩, _⟩ := I.list h1
        obtain ⟨as, q, nq⟩ := reads_all ih h2 rvs e1
        refine ⟨_, .list ho hc hd q, ?_⟩
        obtain ⟨hu, hne, _⟩ := t.nc (List.mem_of_getElem? ha)
        simp only [List.mem_cons, not_or]
        exact ⟨fun z => ne (by rw [hne]; exact fun z => nomatch z) z.symm, nq⟩
      | none =>
        rw [e] at h
        cases e3 : dctAt μ i with
        | none => rw [e3] at h; cases h
        | some kvs =>
          rw [e3] at h
          have h : (match pdatL (pdatD μ n) (kvs.map (·.1)), pdatL (pdatD μ n) (kvs.map (·.2)) with
            | some ks, some ds => some (PyData.dict (ks.zip ds))
            | _, _ => none) = some _ := h
          cases k1 : pdatL (pdatD μ n) (kvs.map (·.1)) with
          | none => rw [k1] at h; cases h
          | some ks =>
            cases k2 : pdatL (pdatD μ n) (kvs.map (·.2)) with
            | none => rw [k1, k2] at h; cases h
            | some ds =>
              rw [k1, k2] at h
              cases h
              unfold dctAt at e3
              cases q : μ[i]? with
              | none => rw [q] at e3; cases e3
              | some ob =>
                rw [q] at e3
                have oo := t.obj i a ob ha q
                cases ob with
                | dct kvs2 =>
                  cases e3
                  obtain ⟨o, hx, lo, ⟨ex, _, es, ep, hd, hcase⟩⟩ := oo
                  have at1 : s.heap.get? a = some o := (I.hok a _ hx).1
                  have lk : ks.length = ds.length := by rw [pdatL_len k1, pdatL_len k2, List.length_map, List.length_map]
                  have z1 : (ks.zip ds).map (fun x => x.fst) = ks := by
                    simp [List.map_fst_zip, lk]
                  have z2 : (ks.zip ds).map (fun x => x.snd) = ds := by
                    simp [List.map_snd_zip, lk]
                  have both : (∃ as, ReadsAll s.heap (es.toList.map (fun x => x.key)) ks as ∧ sysModules ∉ as) ∧ ∃ bs, ReadsAll s.heap (es.toList.map (fun x => x.val)) ds bs ∧ sysModules ∉ bs := by
                    rcases hcase with ⟨vs, _, p2, _, p4⟩ | ⟨xs, p1, _, p3⟩
                    · exact pairs_all ih (fun k u d hk h => key_reads hk h) p2 p4 k1 k2
                    · rw [p1]
                      exact nested_all ih p3 k1 k2
                  obtain ⟨⟨as, q1, n1⟩, ⟨bs, q2, n2⟩⟩ := both
                  rw [← z1] at q1
                  rw [← z2] at q2
                  refine ⟨_, .dict at1 ex.1 hd q1 q2, ?_⟩
                  have lo : a ≠ sysModules := by simpa using lo
                  simp [n1, n2, Ne.symm lo]
                | _ => cases e3
    | _ => cases h
end
/-- repr of values of any kind -/
def reprV (μ : Sto) (p : PV) : Option Str := match pdatD μ 12 p with
  | some d => if (d.showable && decide (d.depth ≤ 16) && decide (d.shown.length ≤ sizeLine)) = true then some d.shown else none
  | none => none
def vReprD : VF := fun xs μ => match xs with
  | [.tup ps] => match reprV μ (.tup ps) with
    | some z => .ok (.str z) μ
    | none => .bad
  | [.ref i] => match reprV μ (.ref i) with
    | some z => .ok (.str z) μ
    | none => .bad
  | _ => vRepr xs μ
section
variable {X : Cx} {W : EW}
theorem oc_reprD (sm : ∃ o, X.K.lookup sysModules = some o) (quiet : X.A.guards = some []) (hu : X.A.units + 40 < cLine) : OC X W (.builtin "repr") vReprD := oc1_of fun pins s σ H xs us Q ρ μ ps I r rp t h => by
  have deep : ∀ {p : PV} {a : Addr}, RV X.K ρ H p (.ref a) → us = [.ref a] → Post X.prog X.w X.K W ρ H (match reprV μ p with | some z => .ok (.str z) μ | none => .bad) (RV X.K) Q → wpAny (model X.prog X.w) X.A (call (.builtin "repr") us) (EP X pins σ Q) X.xe s := fun {p a} rv e h => by
    subst e
    unfold reprV at h
    cases e : pdatD μ 12 p with
    | none => rw [e] at h; exact h.elim
    | some d =>
      rw [e] at h
      by_cases c : (d.showable && decide (d.depth ≤ 16) && decide (d.shown.length ≤ sizeLine)) = true
      · have h2 : Post X.prog X.w X.K W ρ H (match (if (d.showable && decide (d.depth ≤ 16) && decide (d.shown.length ≤ sizeLine)) = true then some d.shown else none) with | some z => .ok (.str z) μ | none => .bad) (RV X.K) Q := h
        rw [if_pos c] at h2
        simp only [Bool.and_eq_true, decide_eq_true_eq] at c
        obtain ⟨⟨c1, c3⟩, c4⟩ := c
        obtain ⟨as, rd, ns⟩ := reads_of I t sm 12 p _ _ d rv rfl e
        refine repr_of_reads' rd c1 (fun _ => ns) quiet (by omega) (fun _ _ e => e) (fun h' u tk k => ?_) c4
        exact ⟨.str d.shown, H, I.kept k, ⟨u, rfl⟩, h2 ρ _ H Step.refl (.str _) t⟩
      · have h2 : Post X.prog X.w X.K W ρ H (match (if (d.showable && decide (d.depth ≤ 16) && decide (d.shown.length ≤ sizeLine)) = true then some d.shown else none) with | some z => .ok (.str z) μ | none => .bad) (RV X.K) Q := h
        rw [if_neg c] at h2
        exact h2.elim
  have old : Post X.prog X.w X.K W ρ H (vRepr ps μ) (RV X.K) Q → wpAny (model X.prog X.w) X.A (call (.builtin "repr") us) (EP X pins σ Q) X.xe s := fun h => oc_repr (W := W) quiet hu pins s σ H xs us Q I r ⟨ρ, μ, ps, rp, t, h⟩
  unfold vReprD at h
  split at h
  · cases rp with
    | cons r1 r2 =>
      cases r2
      cases r1 with
      | tup h1 h2 =>
        obtain ⟨u, rfl, rx⟩ := vals1 r
        cases rx
        exact deep (.tup h1 h2) rfl h
  · cases rp with
    | cons r1 r2 =>
      cases r2
      cases r1 with
      | ref h1 =>
        obtain ⟨u, rfl, rx⟩ := vals1 r
        cases rx
        exact deep (.ref h1) rfl h
  · exact old h
end
end DL
namespace G
open PySem PySem.Spec PyProof.Rows L2 DL
structure Fx (K : PySem.W.Frag) (mg : Str → Option Value) : Prop where
  n_len : mg "len" = none
  n_min : mg "min" = none
  n_max : mg "max" = none
  n_list : mg "list" = none
  n_range : mg "range" = none
  g__law_places : mg "_law_places" = some (.ref (He.ga K "_law_places"))
  n_int : mg "int" = none
  g__law_take : mg "_law_take" = some (.ref (He.ga K "_law_take"))
  g__law_of : mg "_law_of" = some (.ref (He.ga K "_law_of"))
  g__law_odd : mg "_law_odd" = some (.ref (He.ga K "_law_odd"))
  xcL : ∀ C ∈ exL, XiCls K aC_MetreError (He.ma K aC_MetreError "__init__") C
  g_BadTongue : mg "BadTongue" = some (.ref aC_BadTongue)
  g_NoWord : mg "NoWord" = some (.ref aC_NoWord)
  g_NoMetre : mg "NoMetre" = some (.ref aC_NoMetre)
  g_BadMeasure : mg "BadMeasure" = some (.ref aC_BadMeasure)
  g_BadVerse : mg "BadVerse" = some (.ref aC_BadVerse)
  g_BadRow : mg "BadRow" = some (.ref aC_BadRow)
  g_BadNotes : mg "BadNotes" = some (.ref aC_BadNotes)
  g_BadNote : mg "BadNote" = some (.ref aC_BadNote)
  g_Full : mg "Full" = some (.ref aC_Full)
  g_NoNote : mg "NoNote" = some (.ref aC_NoNote)
  g_OtherTongue : mg "OtherTongue" = some (.ref aC_OtherTongue)
  g_NoMeasure : mg "NoMeasure" = some (.ref aC_NoMeasure)
  g_BadClaim : mg "BadClaim" = some (.ref aC_BadClaim)
  g_Crowded : mg "Crowded" = some (.ref aC_Crowded)
  g_TooMany : mg "TooMany" = some (.ref aC_TooMany)
  g_NoPattern : mg "NoPattern" = some (.ref aC_NoPattern)
  g_BadNumber : mg "BadNumber" = some (.ref aC_BadNumber)
  g_BadOffers : mg "BadOffers" = some (.ref aC_BadOffers)
  g_BadWishes : mg "BadWishes" = some (.ref aC_BadWishes)
  g_Contrary : mg "Contrary" = some (.ref aC_Contrary)
  g_NothingToUndo : mg "NothingToUndo" = some (.ref aC_NothingToUndo)
  g_NothingToRedo : mg "NothingToRedo" = some (.ref aC_NothingToRedo)
  g_NoTrial : mg "NoTrial" = some (.ref aC_NoTrial)
  g_BadJournal : mg "BadJournal" = some (.ref aC_BadJournal)
  g_BadLine : mg "BadLine" = some (.ref aC_BadLine)
  g__law_made : mg "_law_made" = some (.ref (He.ga K "_law_made"))
  n_enumerate : mg "enumerate" = none
  eiL : ∀ C ∈ exL, ExcI K C ∧ XfC K C ∧ PySem.W.findIn K (.ref C) "value" = some none
  ko_MetreError : ∀ q ∈ tb_MetreError, PySem.W.kitOne K (.ref q.1) (.ref aC_MetreError) = some q.2
  kn_MetreError : PySem.W.kitOne K (.type "NoneType") (.ref aC_MetreError) = some false
  g_MetreError : mg "MetreError" = some (.ref aC_MetreError)
  n_isinstance : mg "isinstance" = none
  ko_ValueError : ∀ q ∈ tb_ValueError, PySem.W.kitOne K (.ref q.1) (.type "ValueError") = some q.2
  kn_ValueError : PySem.W.kitOne K (.type "NoneType") (.type "ValueError") = some false
  n_ValueError : mg "ValueError" = none
  sysm : ∃ o, K.lookup sysModules = some o
  n_repr : mg "repr" = none
  ko_BadTongue : ∀ q ∈ tb_BadTongue, PySem.W.kitOne K (.ref q.1) (.ref aC_BadTongue) = some q.2
  kn_BadTongue : PySem.W.kitOne K (.type "NoneType") (.ref aC_BadTongue) = some false
  ko_NoWord : ∀ q ∈ tb_NoWord, PySem.W.kitOne K (.ref q.1) (.ref aC_NoWord) = some q.2
  kn_NoWord : PySem.W.kitOne K (.type "NoneType") (.ref aC_NoWord) = some false
  ko_NoMetre : ∀ q ∈ tb_NoMetre, PySem.W.kitOne K (.ref q.1) (.ref aC_NoMetre) = some q.2
  kn_NoMetre : PySem.W.kitOne K (.type "NoneType") (.ref aC_NoMetre) = some false
  ko_BadMeasure : ∀ q ∈ tb_BadMeasure, PySem.W.kitOne K (.ref q.1) (.ref aC_BadMeasure) = some q.2
  kn_BadMeasure : PySem.W.kitOne K (.type "NoneType") (.ref aC_BadMeasure) = some false
  ko_BadVerse : ∀ q ∈ tb_BadVerse, PySem.W.kitOne K (.ref q.1) (.ref aC_BadVerse) = some q.2
  kn_BadVerse : PySem.W.kitOne K (.type "NoneType") (.ref aC_BadVerse) = some false
  ko_BadRow : ∀ q ∈ tb_BadRow, PySem.W.kitOne K (.ref q.1) (.ref aC_BadRow) = some q.2
  kn_BadRow : PySem.W.kitOne K (.type "NoneType") (.ref aC_BadRow) = some false
  ko_BadNotes : ∀ q ∈ tb_BadNotes, PySem.W.kitOne K (.ref q.1) (.ref aC_BadNotes) = some q.2
  kn_BadNotes : PySem.W.kitOne K (.type "NoneType") (.ref aC_BadNotes) = some false
  ko_BadNote : ∀ q ∈ tb_BadNote, PySem.W.kitOne K (.ref q.1) (.ref aC_BadNote) = some q.2
  kn_BadNote : PySem.W.kitOne K (.type "NoneType") (.ref aC_BadNote) = some false
  ko_Full : ∀ q ∈ tb_Full, PySem.W.kitOne K (.ref q.1) (.ref aC_Full) = some q.2
  kn_Full : PySem.W.kitOne K (.type "NoneType") (.ref aC_Full) = some false
  ko_NoNote : ∀ q ∈ tb_NoNote, PySem.W.kitOne K (.ref q.1) (.ref aC_NoNote) = some q.2
  kn_NoNote : PySem.W.kitOne K (.type "NoneType") (.ref aC_NoNote) = some false
  ko_OtherTongue : ∀ q ∈ tb_OtherTongue, PySem.W.kitOne K (.ref q.1) (.ref aC_OtherTongue) = some q.2
  kn_OtherTongue : PySem.W.kitOne K (.type "NoneType") (.ref aC_OtherTongue) = some false
  ko_NoMeasure : ∀ q ∈ tb_NoMeasure, PySem.W.kitOne K (.ref q.1) (.ref aC_NoMeasure) = some q.2
  kn_NoMeasure : PySem.W.kitOne K (.type "NoneType") (.ref aC_NoMeasure) = some false
  ko_BadClaim : ∀ q ∈ tb_BadClaim, PySem.W.kitOne K (.ref q.1) (.ref aC_BadClaim) = some q.2
  kn_BadClaim : PySem.W.kitOne K (.type "NoneType") (.ref aC_BadClaim) = some false
  ko_Crowded : ∀ q ∈ tb_Crowded, PySem.W.kitOne K (.ref q.1) (.ref aC_Crowded) = some q.2
  kn_Crowded : PySem.W.kitOne K (.type "NoneType") (.ref aC_Crowded) = some false
  ko_TooMany : ∀ q ∈ tb_TooMany, PySem.W.kitOne K (.ref q.1) (.ref aC_TooMany) = some q.2
  kn_TooMany : PySem.W.kitOne K (.type "NoneType") (.ref aC_TooMany) = some false
  ko_NoPattern : ∀ q ∈ tb_NoPattern, PySem.W.kitOne K (.ref q.1) (.ref aC_NoPattern) = some q.2
  kn_NoPattern : PySem.W.kitOne K (.type "NoneType") (.ref aC_NoPattern) = some false
  ko_BadNumber : ∀ q ∈ tb_BadNumber, PySem.W.kitOne K (.ref q.1) (.ref aC_BadNumber) = some q.2
  kn_BadNumber : PySem.W.kitOne K (.type "NoneType") (.ref aC_BadNumber) = some false
  ko_BadOffers : ∀ q ∈ tb_BadOffers, PySem.W.kitOne K (.ref q.1) (.ref aC_BadOffers) = some q.2
  kn_BadOffers : PySem.W.kitOne K (.type "NoneType") (.ref aC_BadOffers) = some false
  ko_BadWishes : ∀ q ∈ tb_BadWishes, PySem.W.kitOne K (.ref q.1) (.ref aC_BadWishes) = some q.2
  kn_BadWishes : PySem.W.kitOne K (.type "NoneType") (.ref aC_BadWishes) = some false
  ko_Contrary : ∀ q ∈ tb_Contrary, PySem.W.kitOne K (.ref q.1) (.ref aC_Contrary) = some q.2
  kn_Contrary : PySem.W.kitOne K (.type "NoneType") (.ref aC_Contrary) = some false
  ko_NothingToUndo : ∀ q ∈ tb_NothingToUndo, PySem.W.kitOne K (.ref q.1) (.ref aC_NothingToUndo) = some q.2
  kn_NothingToUndo : PySem.W.kitOne K (.type "NoneType") (.ref aC_NothingToUndo) = some false
  ko_NothingToRedo : ∀ q ∈ tb_NothingToRedo, PySem.W.kitOne K (.ref q.1) (.ref aC_NothingToRedo) = some q.2
  kn_NothingToRedo : PySem.W.kitOne K (.type "NoneType") (.ref aC_NothingToRedo) = some false
  ko_NoTrial : ∀ q ∈ tb_NoTrial, PySem.W.kitOne K (.ref q.1) (.ref aC_NoTrial) = some q.2
  kn_NoTrial : PySem.W.kitOne K (.type "NoneType") (.ref aC_NoTrial) = some false
  ko_BadJournal : ∀ q ∈ tb_BadJournal, PySem.W.kitOne K (.ref q.1) (.ref aC_BadJournal) = some q.2
  kn_BadJournal : PySem.W.kitOne K (.type "NoneType") (.ref aC_BadJournal) = some false
  ko_BadLine : ∀ q ∈ tb_BadLine, PySem.W.kitOne K (.ref q.1) (.ref aC_BadLine) = some q.2
  kn_BadLine : PySem.W.kitOne K (.type "NoneType") (.ref aC_BadLine) = some false
  g__law_marks : mg "_law_marks" = some (.ref (He.ga K "_law_marks"))
  n_any : mg "any" = none
  g__law_right : mg "_law_right" = some (.ref (He.ga K "_law_right"))
  n_abs : mg "abs" = none
  g__law_pot : mg "_law_pot" = some (.ref (He.ga K "_law_pot"))
  n_all : mg "all" = none
  xi1 : xiB PySem.Challenge.pw_lostmetres_k00_errors_keep_their_values aC_MetreError K = true
  xi2 : cellB 18 aC_MetreError K = true
  xi3 : xiKB aC_MetreError K = true
  blt : bltB K = true
  tabs : tabsK K = tabL
  d__law_places : ∃ fd, FunD K "_law_places" "_law_places" (defArgs s__law_places) (defBody s__law_places) (defScope s__law_places) [] [] (He.ga K "_law_places") fd
  d__law_take : ∃ fd, FunD K "_law_take" "_law_take" (defArgs s__law_take) (defBody s__law_take) (defScope s__law_take) [] [] (He.ga K "_law_take") fd
  d__law_of : ∃ fd, FunD K "_law_of" "_law_of" (defArgs s__law_of) (defBody s__law_of) (defScope s__law_of) [] [] (He.ga K "_law_of") fd
  d__law_odd : ∃ fd, FunD K "_law_odd" "_law_odd" (defArgs s__law_odd) (defBody s__law_odd) (defScope s__law_odd) [] [] (He.ga K "_law_odd") fd
  d__law_made : ∃ fd, FunD K "_law_made" "_law_made" (defArgs s__law_made) (defBody s__law_made) (defScope s__law_made) [] [] (He.ga K "_law_made") fd
  d__law_marks : ∃ fd, FunD K "_law_marks" "_law_marks" (defArgs s__law_marks) (defBody s__law_marks) (defScope s__law_marks) [] [] (He.ga K "_law_marks") fd
  d__law_right : ∃ fd, FunD K "_law_right" "_law_right" (defArgs s__law_right) (defBody s__law_right) (defScope s__law_right) [] [] (He.ga K "_law_right") fd
  d__law_pot : ∃ fd, FunD K "_law_pot" "_law_pot" (defArgs s__law_pot) (defBody s__law_pot) (defScope s__law_pot) [] [] (He.ga K "_law_pot") fd
  d_law : ∃ fd, FunD K "law" "law" (defArgs s_law) (defBody s_law) (defScope s_law) [] [] (He.ga K "law") fd
structure Gx (P : Program) (K : PySem.W.Frag) (mg : Str → Option Value) (base : Heap) : Prop extends Fx K mg where
  xi : XiDef K P aC_MetreError (He.ma K aC_MetreError "__init__")
  tb : ∀ p ∈ cs, LamX.TabB base mg p.1 p.2
noncomputable def b__law_places : DS := (sRet (dLstRg1 (dApp vMax2 (dCons (dC (.int 1)) (dCons (dApp vMin2 (dCons (dVar 1) (dCons (dApp vLen (dCons (dVar 0) dNil)) dNil))) dNil)))))
noncomputable def m__law_places : VF := fnBody 2 2 b__law_places
noncomputable def b__law_take : DS := (sSeq (sIf (dTest (dApp vGt (dCons (dApp vIx (dCons (dVar 0) (dCons (dC (.int 0)) dNil))) (dCons (dC (.int 0)) dNil)))) (sSeq (sAsg (dApp vMod (dCons (dApp vInt (dCons (dApp vIx (dCons (dVar 0) (dCons (dC (.int 0)) dNil))) dNil)) (dCons (dVar 1) dNil))) (gSet 2)) (sSeq (sAsg (dApp vDiv (dCons (dApp vIx (dCons (dVar 0) (dCons (dC (.int 0)) dNil))) (dCons (dVar 1) dNil))) (gItem (dVar 0) (dC (.int 0)))) (sRet (dVar 2)))) sNil) (sSeq (sAsg (dApp vAdd (dCons (dApp vIx (dCons (dVar 0) (dCons (dC (.int 2)) dNil))) (dCons (dC (.int 1)) dNil))) (gItem (dVar 0) (dC (.int 2)))) (sSeq (sAsg (dApp vIx (dCons (dApp vLst (dCons (dC (.int 2147483647)) (dCons (dC (.int 2147483629)) (dCons (dC (.int 2147483587)) (dCons (dC (.int 2147483579)) (dCons (dC (.int 2147483563)) dNil)))))) (dCons (dApp vMod (dCons (dApp vInt (dCons (dApp vIx (dCons (dVar 0) (dCons (dC (.int 2)) dNil))) dNil)) (dCons (dC (.int 5)) dNil))) dNil))) (gSet 3)) (sSeq (sAsg (dApp vMod (dCons (dApp vInt (dCons (dApp vPow (dCons (dApp vInt (dCons (dApp vAdd (dCons (dApp vAdd (dCons (dApp vIx (dCons (dVar 0) (dCons (dC (.int 1)) dNil))) (dCons (dApp vMulA (dCons (dApp vMulA (dCons (dC (.int 95111)) (dCons (dApp vIx (dCons (dVar 0) (dCons (dC (.int 2)) dNil))) dNil))) (dCons (dApp vIx (dCons (dVar 0) (dCons (dC (.int 2)) dNil))) dNil))) dNil))) (dCons (dC (.int 83)) dNil))) dNil)) (dCons (dC (.int 3)) dNil))) dNil)) (dCons (dVar 3) dNil))) (gSet 4)) (sRet (dApp vMod (dCons (dApp vInt (dCons (dApp vDiv (dCons (dApp vMulA (dCons (dVar 4) (dCons (dApp vAdd (dCons (dApp vMod (dCons (dApp vInt (dCons (dVar 4) dNil)) (dCons (dC (.int 10039)) dNil))) (dCons (dApp vMulA (dCons (dC (.int 91)) (dCons (dApp vIx (dCons (dVar 0) (dCons (dC (.int 2)) dNil))) dNil))) dNil))) dNil))) (dCons (dC (.int 131)) dNil))) dNil)) (dCons (dVar 1) dNil))))))))
noncomputable def m__law_take : VF := fnBody 2 5 b__law_take
noncomputable def b__law_of : DS := (sRet (dApp vIx (dCons (dVar 1) (dCons (dApp m__law_take (dCons (dVar 0) (dCons (dApp vLen (dCons (dVar 1) dNil)) dNil))) dNil))))
noncomputable def m__law_of : VF := fnBody 2 2 b__law_of
noncomputable def b__law_odd : DS := (sSeq (sAsg (dApp vLst (dCons (dC .non) (dCons (dC (.bl true)) (dCons (dC (.bl false)) (dCons (dC (.int 0)) (dCons (dC (.int 1)) (dCons (dApp vNeg (dCons (dC (.int 1)) dNil)) (dCons (dC (.int 2)) (dCons (dC (.int 7)) (dCons (dC (.str "")) (dCons (dC (.str "a")) (dCons (dC (.str "-")) (dCons (dC (.str "u")) (dCons (dC (.str "goes")) (dCons (dApp vTup dNil) (dCons (dApp vLst dNil) (dCons dNewD (dCons (dApp vTup (dCons (dC (.int 0)) dNil)) (dCons (dApp vTup (dCons (dApp vTup dNil) dNil)) (dCons (dApp vLst (dCons (dC (.int 0)) dNil)) (dCons (dApp vTup (dCons (dC (.str "a")) dNil)) (dCons (dApp vLst (dCons (dC (.str "a")) dNil)) dNil)))))))))))))))))))))) (gSet 1)) (sRet (dApp m__law_of (dCons (dVar 0) (dCons (dApp vAdd (dCons (dVar 1) (dCons (dApp vLst (dCons (dDisp [((dC (.str "a")), (dC (.int 1)))]) (dCons (dApp vTup (dCons (dC (.str "goes")) dNil)) (dCons (dApp vTup (dCons (dC (.str "a")) (dCons (dApp vTup (dCons (dC (.str "b")) dNil)) dNil))) (dCons (dC (.str "word")) (dCons (dApp vTup (dCons (dC (.str "|")) dNil)) (dCons (dApp vPow (dCons (dC (.int 10)) (dCons (dC (.int 8)) dNil))) (dCons (dC (.str "-u-u")) (dCons (dApp vTup (dCons (dApp vTup (dCons (dC (.str "a")) dNil)) (dCons (dC (.str "a")) dNil))) dNil))))))))) dNil))) dNil)))))
noncomputable def m__law_odd : VF := fnBody 1 2 b__law_odd
noncomputable def b__law_made : DS := (sSeq (sAsg (dApp vLst (dCons (dApp (vExc aC_BadTongue) (dCons (dVar 0) dNil)) (dCons (dApp (vExc aC_NoWord) (dCons (dVar 0) dNil)) (dCons (dApp (vExc aC_NoMetre) (dCons (dVar 0) dNil)) (dCons (dApp (vExc aC_BadMeasure) (dCons (dVar 0) dNil)) (dCons (dApp (vExc aC_BadVerse) (dCons (dVar 0) dNil)) dNil)))))) (gSet 1)) (sSeq (sExpr (dM isLstP vExtend (dVar 1) (dCons (dApp vLst (dCons (dApp (vExc aC_BadRow) (dCons (dVar 0) dNil)) (dCons (dApp (vExc aC_BadNotes) (dCons (dVar 0) dNil)) (dCons (dApp (vExc aC_BadNote) (dCons (dVar 0) dNil)) (dCons (dApp (vExc aC_Full) (dCons (dVar 0) dNil)) (dCons (dApp (vExc aC_NoNote) (dCons (dVar 0) dNil)) dNil)))))) dNil))) (sSeq (sExpr (dM isLstP vExtend (dVar 1) (dCons (dApp vLst (dCons (dApp (vExc aC_OtherTongue) (dCons (dVar 0) dNil)) (dCons (dApp (vExc aC_NoMeasure) (dCons (dVar 0) dNil)) (dCons (dApp (vExc aC_BadClaim) (dCons (dVar 0) dNil)) (dCons (dApp (vExc aC_Crowded) (dCons (dVar 0) dNil)) (dCons (dApp (vExc aC_TooMany) (dCons (dVar 0) dNil)) dNil)))))) dNil))) (sSeq (sExpr (dM isLstP vExtend (dVar 1) (dCons (dApp vLst (dCons (dApp (vExc aC_NoPattern) (dCons (dVar 0) dNil)) (dCons (dApp (vExc aC_BadNumber) (dCons (dVar 0) dNil)) (dCons (dApp (vExc aC_BadOffers) (dCons (dVar 0) dNil)) (dCons (dApp (vExc aC_BadWishes) (dCons (dVar 0) dNil)) (dCons (dApp (vExc aC_Contrary) (dCons (dVar 0) dNil)) dNil)))))) dNil))) (sSeq (sExpr (dM isLstP vExtend (dVar 1) (dCons (dApp vLst (dCons (dApp (vExc aC_NothingToUndo) (dCons (dVar 0) dNil)) (dCons (dApp (vExc aC_NothingToRedo) (dCons (dVar 0) dNil)) (dCons (dApp (vExc aC_NoTrial) (dCons (dVar 0) dNil)) (dCons (dApp (vExc aC_BadJournal) (dCons (dVar 0) dNil)) (dCons (dApp (vExc aC_BadLine) (dCons (dVar 0) dNil)) dNil)))))) dNil))) (sRet (dVar 1)))))))
noncomputable def m__law_made : VF := fnBody 1 2 b__law_made
noncomputable def b__law_marks : DS := (sSeq (sAsg (dApp vLst (dCons (dApp (vIsi (isiE tb_BadTongue)) (dCons (dVar 0) dNil)) (dCons (dApp (vIsi (isiE tb_NoWord)) (dCons (dVar 0) dNil)) (dCons (dApp (vIsi (isiE tb_NoMetre)) (dCons (dVar 0) dNil)) dNil)))) (gSet 1)) (sSeq (sExpr (dM isLstP vExtend (dVar 1) (dCons (dApp vLst (dCons (dApp (vIsi (isiE tb_BadMeasure)) (dCons (dVar 0) dNil)) (dCons (dApp (vIsi (isiE tb_BadVerse)) (dCons (dVar 0) dNil)) (dCons (dApp (vIsi (isiE tb_BadRow)) (dCons (dVar 0) dNil)) dNil)))) dNil))) (sSeq (sExpr (dM isLstP vExtend (dVar 1) (dCons (dApp vLst (dCons (dApp (vIsi (isiE tb_BadNotes)) (dCons (dVar 0) dNil)) (dCons (dApp (vIsi (isiE tb_BadNote)) (dCons (dVar 0) dNil)) (dCons (dApp (vIsi (isiE tb_Full)) (dCons (dVar 0) dNil)) dNil)))) dNil))) (sSeq (sExpr (dM isLstP vExtend (dVar 1) (dCons (dApp vLst (dCons (dApp (vIsi (isiE tb_NoNote)) (dCons (dVar 0) dNil)) (dCons (dApp (vIsi (isiE tb_OtherTongue)) (dCons (dVar 0) dNil)) (dCons (dApp (vIsi (isiE tb_NoMeasure)) (dCons (dVar 0) dNil)) dNil)))) dNil))) (sSeq (sExpr (dM isLstP vExtend (dVar 1) (dCons (dApp vLst (dCons (dApp (vIsi (isiE tb_BadClaim)) (dCons (dVar 0) dNil)) (dCons (dApp (vIsi (isiE tb_Crowded)) (dCons (dVar 0) dNil)) (dCons (dApp (vIsi (isiE tb_TooMany)) (dCons (dVar 0) dNil)) dNil)))) dNil))) (sSeq (sExpr (dM isLstP vExtend (dVar 1) (dCons (dApp vLst (dCons (dApp (vIsi (isiE tb_NoPattern)) (dCons (dVar 0) dNil)) (dCons (dApp (vIsi (isiE tb_BadNumber)) (dCons (dVar 0) dNil)) (dCons (dApp (vIsi (isiE tb_BadOffers)) (dCons (dVar 0) dNil)) dNil)))) dNil))) (sSeq (sExpr (dM isLstP vExtend (dVar 1) (dCons (dApp vLst (dCons (dApp (vIsi (isiE tb_BadWishes)) (dCons (dVar 0) dNil)) (dCons (dApp (vIsi (isiE tb_Contrary)) (dCons (dVar 0) dNil)) (dCons (dApp (vIsi (isiE tb_NothingToUndo)) (dCons (dVar 0) dNil)) dNil)))) dNil))) (sSeq (sExpr (dM isLstP vExtend (dVar 1) (dCons (dApp vLst (dCons (dApp (vIsi (isiE tb_NothingToRedo)) (dCons (dVar 0) dNil)) (dCons (dApp (vIsi (isiE tb_NoTrial)) (dCons (dVar 0) dNil)) (dCons (dApp (vIsi (isiE tb_BadJournal)) (dCons (dVar 0) dNil)) dNil)))) dNil))) (sSeq (sExpr (dM isLstP vExtend (dVar 1) (dCons (dApp vLst (dCons (dApp (vIsi (isiE tb_BadLine)) (dCons (dVar 0) dNil)) dNil)) dNil))) (sRet (dVar 1)))))))))))
noncomputable def m__law_marks : VF := fnBody 1 2 b__law_marks
noncomputable def b__law_right : DS := (sSeq (sAsg (dApp m__law_of (dCons (dVar 0) (dCons (dApp vLst (dCons (dApp m__law_odd (dCons (dVar 0) dNil)) (dCons (dApp vTup (dCons (dApp m__law_odd (dCons (dVar 0) dNil)) (dCons (dC (.int 3)) dNil))) (dCons (dApp vLst (dCons (dApp m__law_odd (dCons (dVar 0) dNil)) dNil)) (dCons (dDisp [((dC (.str "a")), (dApp m__law_odd (dCons (dVar 0) dNil)))]) dNil))))) dNil))) (gSet 1)) (sSeq (sAsg (dApp m__law_made (dCons (dVar 1) dNil)) (gSet 2)) (sSeq (sFor (dEnum (dVar 2)) (gTupA 2 (gCons' (gSet 3) (gCons' (gSet 4) gNil'))) (sSeq (sIf (dOr (dNot (dTru (dApp (vIsi (isiE tb_MetreError)) (dCons (dVar 4) dNil)))) (dNot (dTru (dApp (vIsi (isiE tb_ValueError)) (dCons (dVar 4) dNil))))) (sRet (dC (.bl false))) sNil) (sIf (dOr (dTest (dApp vNeA (dCons (dApp vReprD (dCons (dApp (vXval exL) (dCons (dVar 4) dNil)) dNil)) (dCons (dApp vReprD (dCons (dVar 1) dNil)) dNil)))) (dTest (dApp vNeA (dCons (dApp m__law_marks (dCons (dVar 4) dNil)) (dCons (dLc (dRg1 (dApp vLen (dCons (dVar 2) dNil))) (gSet 6) tYes' (dApp vEqA (dCons (dVar 3) (dCons (dVar 6) dNil))) [6]) dNil))))) (sRet (dC (.bl false))) sNil))) (sSeq (sAsg (dApp (vExc aC_MetreError) (dCons (dVar 1) dNil)) (gSet 5)) (sRet (dAndV (dApp vEqA (dCons (dApp vReprD (dCons (dApp (vXval exL) (dCons (dVar 5) dNil)) dNil)) (dCons (dApp vReprD (dCons (dVar 1) dNil)) dNil))) (dAndV (dApp (vIsi (isiE tb_ValueError)) (dCons (dVar 5) dNil)) (dNotV (dApp vAny (dCons (dApp m__law_marks (dCons (dVar 5) dNil)) dNil))))))))))
noncomputable def m__law_right : VF := fnBody 1 7 b__law_right
noncomputable def b__law_pot : DS := (sSeq (sAsg (dIf (dTest (dApp vLt (dCons (dVar 1) (dCons (dApp vLen (dCons (dVar 0) dNil)) dNil)))) (dApp vIx (dCons (dVar 0) (dCons (dVar 1) dNil))) (dApp vAdd (dCons (dApp vMulA (dCons (dC (.int 97)) (dCons (dVar 1) dNil))) (dCons (dC (.int 71)) dNil)))) (gSet 2)) (sSeq (sAsg (dApp vMulA (dCons (dApp vMod (dCons (dApp vInt (dCons (dApp vAbs (dCons (dVar 2) dNil)) dNil)) (dCons (dApp vPow (dCons (dApp vPow (dCons (dC (.int 10)) (dCons (dC (.int 60)) dNil))) (dCons (dC (.int 5)) dNil))) dNil))) (dCons (dApp vInt (dCons (dApp vGe (dCons (dApp vAbs (dCons (dVar 2) dNil)) (dCons (dApp vPow (dCons (dC (.int 10)) (dCons (dC (.int 18)) dNil))) dNil))) dNil)) dNil))) (gSet 3)) (sSeq (sAsg (dApp vMod (dCons (dApp vInt (dCons (dVar 2) dNil)) (dCons (dC (.int 2305843009213693951)) dNil))) (gSet 4)) (sRet (dApp vLst (dCons (dVar 3) (dCons (dApp vMod (dCons (dApp vInt (dCons (dApp vAdd (dCons (dApp vAdd (dCons (dApp vMulA (dCons (dVar 4) (dCons (dC (.int 80201)) dNil))) (dCons (dApp vMulA (dCons (dApp vMulA (dCons (dC (.int 8329)) (dCons (dVar 1) dNil))) (dCons (dVar 1) dNil))) dNil))) (dCons (dC (.int 113)) dNil))) dNil)) (dCons (dC (.int 2305843009213693921)) dNil))) (dCons (dC (.int 0)) dNil))))))))
noncomputable def m__law_pot : VF := fnBody 2 5 b__law_pot
noncomputable def b_law : DS := (sRet (dApp vAll (dCons (dLc (dItA (dApp m__law_places (dCons (dVar 0) (dCons (dC (.int 4)) dNil)))) (gSet 1) tYes' (dApp (vAway m__law_right) (dCons (dApp m__law_pot (dCons (dVar 0) (dCons (dVar 1) dNil))) dNil)) [1]) dNil)))
noncomputable def m_law : VF := fnBody 1 2 b_law
section
variable {P : Program} {w : World} {K : PySem.W.Frag} {mg : Str → Option Value} {base : Heap}
theorem sc_isi_MetreError (T : Gx P K mg base) : IsiC K (.ref aC_MetreError) (isiE tb_MetreError) := isiE_of (fun q hq => ⟨(T.eiL q.1 (show q.1 ∈ exL from (List.mem_map_of_mem (f := Prod.fst) hq : q.1 ∈ tb_MetreError.map Prod.fst))).1, T.ko_MetreError q hq⟩) T.kn_MetreError
theorem sc_isi_ValueError (T : Gx P K mg base) : IsiC K (.type "ValueError") (isiE tb_ValueError) := isiE_of (fun q hq => ⟨(T.eiL q.1 (show q.1 ∈ exL from (List.mem_map_of_mem (f := Prod.fst) hq : q.1 ∈ tb_ValueError.map Prod.fst))).1, T.ko_ValueError q hq⟩) T.kn_ValueError
theorem sc_isi_BadTongue (T : Gx P K mg base) : IsiC K (.ref aC_BadTongue) (isiE tb_BadTongue) := isiE_of (fun q hq => ⟨(T.eiL q.1 (show q.1 ∈ exL from (List.mem_map_of_mem (f := Prod.fst) hq : q.1 ∈ tb_BadTongue.map Prod.fst))).1, T.ko_BadTongue q hq⟩) T.kn_BadTongue
theorem sc_isi_NoWord (T : Gx P K mg base) : IsiC K (.ref aC_NoWord) (isiE tb_NoWord) := isiE_of (fun q hq => ⟨(T.eiL q.1 (show q.1 ∈ exL from (List.mem_map_of_mem (f := Prod.fst) hq : q.1 ∈ tb_NoWord.map Prod.fst))).1, T.ko_NoWord q hq⟩) T.kn_NoWord
theorem sc_isi_NoMetre (T : Gx P K mg base) : IsiC K (.ref aC_NoMetre) (isiE tb_NoMetre) := isiE_of (fun q hq => ⟨(T.eiL q.1 (show q.1 ∈ exL from (List.mem_map_of_mem (f := Prod.fst) hq : q.1 ∈ tb_NoMetre.map Prod.fst))).1, T.ko_NoMetre q hq⟩) T.kn_NoMetre
theorem sc_isi_BadMeasure (T : Gx P K mg base) : IsiC K (.ref aC_BadMeasure) (isiE tb_BadMeasure) := isiE_of (fun q hq => ⟨(T.eiL q.1 (show q.1 ∈ exL from (List.mem_map_of_mem (f := Prod.fst) hq : q.1 ∈ tb_BadMeasure.map Prod.fst))).1, T.ko_BadMeasure q hq⟩) T.kn_BadMeasure
theorem sc_isi_BadVerse (T : Gx P K mg base) : IsiC K (.ref aC_BadVerse) (isiE tb_BadVerse) := isiE_of (fun q hq => ⟨(T.eiL q.1 (show q.1 ∈ exL from (List.mem_map_of_mem (f := Prod.fst) hq : q.1 ∈ tb_BadVerse.map Prod.fst))).1, T.ko_BadVerse q hq⟩) T.kn_BadVerse
theorem sc_isi_BadRow (T : Gx P K mg base) : IsiC K (.ref aC_BadRow) (isiE tb_BadRow) := isiE_of (fun q hq => ⟨(T.eiL q.1 (show q.1 ∈ exL from (List.mem_map_of_mem (f := Prod.fst) hq : q.1 ∈ tb_BadRow.map Prod.fst))).1, T.ko_BadRow q hq⟩) T.kn_BadRow
theorem sc_isi_BadNotes (T : Gx P K mg base) : IsiC K (.ref aC_BadNotes) (isiE tb_BadNotes) := isiE_of (fun q hq => ⟨(T.eiL q.1 (show q.1 ∈ exL from (List.mem_map_of_mem (f := Prod.fst) hq : q.1 ∈ tb_BadNotes.map Prod.fst))).1, T.ko_BadNotes q hq⟩) T.kn_BadNotes
theorem sc_isi_BadNote (T : Gx P K mg base) : IsiC K (.ref aC_BadNote) (isiE tb_BadNote) := isiE_of (fun q hq => ⟨(T.eiL q.1 (show q.1 ∈ exL from (List.mem_map_of_mem (f := Prod.fst) hq : q.1 ∈ tb_BadNote.map Prod.fst))).1, T.ko_BadNote q hq⟩) T.kn_BadNote
theorem sc_isi_Full (T : Gx P K mg base) : IsiC K (.ref aC_Full) (isiE tb_Full) := isiE_of (fun q hq => ⟨(T.eiL q.1 (show q.1 ∈ exL from (List.mem_map_of_mem (f := Prod.fst) hq : q.1 ∈ tb_Full.map Prod.fst))).1, T.ko_Full q hq⟩) T.kn_Full
theorem sc_isi_NoNote (T : Gx P K mg base) : IsiC K (.ref aC_NoNote) (isiE tb_NoNote) := isiE_of (fun q hq => ⟨(T.eiL q.1 (show q.1 ∈ exL from (List.mem_map_of_mem (f := Prod.fst) hq : q.1 ∈ tb_NoNote.map Prod.fst))).1, T.ko_NoNote q hq⟩) T.kn_NoNote
theorem sc_isi_OtherTongue (T : Gx P K mg base) : IsiC K (.ref aC_OtherTongue) (isiE tb_OtherTongue) := isiE_of (fun q hq => ⟨(T.eiL q.1 (show q.1 ∈ exL from (List.mem_map_of_mem (f := Prod.fst) hq : q.1 ∈ tb_OtherTongue.map Prod.fst))).1, T.ko_OtherTongue q hq⟩) T.kn_OtherTongue
theorem sc_isi_NoMeasure (T : Gx P K mg base) : IsiC K (.ref aC_NoMeasure) (isiE tb_NoMeasure) := isiE_of (fun q hq => ⟨(T.eiL q.1 (show q.1 ∈ exL from (List.mem_map_of_mem (f := Prod.fst) hq : q.1 ∈ tb_NoMeasure.map Prod.fst))).1, T.ko_NoMeasure q hq⟩) T.kn_NoMeasure
theorem sc_isi_BadClaim (T : Gx P K mg base) : IsiC K (.ref aC_BadClaim) (isiE tb_BadClaim) := isiE_of (fun q hq => ⟨(T.eiL q.1 (show q.1 ∈ exL from (List.mem_map_of_mem (f := Prod.fst) hq : q.1 ∈ tb_BadClaim.map Prod.fst))).1, T.ko_BadClaim q hq⟩) T.kn_BadClaim
theorem sc_isi_Crowded (T : Gx P K mg base) : IsiC K (.ref aC_Crowded) (isiE tb_Crowded) := isiE_of (fun q hq => ⟨(T.eiL q.1 (show q.1 ∈ exL from (List.mem_map_of_mem (f := Prod.fst) hq : q.1 ∈ tb_Crowded.map Prod.fst))).1, T.ko_Crowded q hq⟩) T.kn_Crowded
theorem sc_isi_TooMany (T : Gx P K mg base) : IsiC K (.ref aC_TooMany) (isiE tb_TooMany) := isiE_of (fun q hq => ⟨(T.eiL q.1 (show q.1 ∈ exL from (List.mem_map_of_mem (f := Prod.fst) hq : q.1 ∈ tb_TooMany.map Prod.fst))).1, T.ko_TooMany q hq⟩) T.kn_TooMany
theorem sc_isi_NoPattern (T : Gx P K mg base) : IsiC K (.ref aC_NoPattern) (isiE tb_NoPattern) := isiE_of (fun q hq => ⟨(T.eiL q.1 (show q.1 ∈ exL from (List.mem_map_of_mem (f := Prod.fst) hq : q.1 ∈ tb_NoPattern.map Prod.fst))).1, T.ko_NoPattern q hq⟩) T.kn_NoPattern
theorem sc_isi_BadNumber (T : Gx P K mg base) : IsiC K (.ref aC_BadNumber) (isiE tb_BadNumber) := isiE_of (fun q hq => ⟨(T.eiL q.1 (show q.1 ∈ exL from (List.mem_map_of_mem (f := Prod.fst) hq : q.1 ∈ tb_BadNumber.map Prod.fst))).1, T.ko_BadNumber q hq⟩) T.kn_BadNumber
theorem sc_isi_BadOffers (T : Gx P K mg base) : IsiC K (.ref aC_BadOffers) (isiE tb_BadOffers) := isiE_of (fun q hq => ⟨(T.eiL q.1 (show q.1 ∈ exL from (List.mem_map_of_mem (f := Prod.fst) hq : q.1 ∈ tb_BadOffers.map Prod.fst))).1, T.ko_BadOffers q hq⟩) T.kn_BadOffers
theorem sc_isi_BadWishes (T : Gx P K mg base) : IsiC K (.ref aC_BadWishes) (isiE tb_BadWishes) := isiE_of (fun q hq => ⟨(T.eiL q.1 (show q.1 ∈ exL from (List.mem_map_of_mem (f := Prod.fst) hq : q.1 ∈ tb_BadWishes.map Prod.fst))).1, T.ko_BadWishes q hq⟩) T.kn_BadWishes
theorem sc_isi_Contrary (T : Gx P K mg base) : IsiC K (.ref aC_Contrary) (isiE tb_Contrary) := isiE_of (fun q hq => ⟨(T.eiL q.1 (show q.1 ∈ exL from (List.mem_map_of_mem (f := Prod.fst) hq : q.1 ∈ tb_Contrary.map Prod.fst))).1, T.ko_Contrary q hq⟩) T.kn_Contrary
theorem sc_isi_NothingToUndo (T : Gx P K mg base) : IsiC K (.ref aC_NothingToUndo) (isiE tb_NothingToUndo) := isiE_of (fun q hq => ⟨(T.eiL q.1 (show q.1 ∈ exL from (List.mem_map_of_mem (f := Prod.fst) hq : q.1 ∈ tb_NothingToUndo.map Prod.fst))).1, T.ko_NothingToUndo q hq⟩) T.kn_NothingToUndo
theorem sc_isi_NothingToRedo (T : Gx P K mg base) : IsiC K (.ref aC_NothingToRedo) (isiE tb_NothingToRedo) := isiE_of (fun q hq => ⟨(T.eiL q.1 (show q.1 ∈ exL from (List.mem_map_of_mem (f := Prod.fst) hq : q.1 ∈ tb_NothingToRedo.map Prod.fst))).1, T.ko_NothingToRedo q hq⟩) T.kn_NothingToRedo
theorem sc_isi_NoTrial (T : Gx P K mg base) : IsiC K (.ref aC_NoTrial) (isiE tb_NoTrial) := isiE_of (fun q hq => ⟨(T.eiL q.1 (show q.1 ∈ exL from (List.mem_map_of_mem (f := Prod.fst) hq : q.1 ∈ tb_NoTrial.map Prod.fst))).1, T.ko_NoTrial q hq⟩) T.kn_NoTrial
theorem sc_isi_BadJournal (T : Gx P K mg base) : IsiC K (.ref aC_BadJournal) (isiE tb_BadJournal) := isiE_of (fun q hq => ⟨(T.eiL q.1 (show q.1 ∈ exL from (List.mem_map_of_mem (f := Prod.fst) hq : q.1 ∈ tb_BadJournal.map Prod.fst))).1, T.ko_BadJournal q hq⟩) T.kn_BadJournal
theorem sc_isi_BadLine (T : Gx P K mg base) : IsiC K (.ref aC_BadLine) (isiE tb_BadLine) := isiE_of (fun q hq => ⟨(T.eiL q.1 (show q.1 ∈ exL from (List.mem_map_of_mem (f := Prod.fst) hq : q.1 ∈ tb_BadLine.map Prod.fst))).1, T.ko_BadLine q hq⟩) T.kn_BadLine
theorem sc__law_places : FnScope ["_law_script", "_law_most"] ["_law_script", "_law_most"] (defScope s__law_places) := ⟨rfl, rfl, rfl, by decide +kernel, rfl, by decide +kernel, by decide +kernel⟩
theorem ok__law_places (T : Gx P K mg base) : Has P w K mg base 1 (He.ga K "_law_places") ["_law_script", "_law_most"] m__law_places := show Has P w K mg base 1 (He.ga K "_law_places") ["_law_script", "_law_most"] (fnBody 2 2 b__law_places) from has_of (N := ["_law_script", "_law_most"]) (by kernel_rfl) (by kernel_rfl) T.d__law_places sc__law_places (fun _ _ _ _ _ _ us hl => match us, hl with | [_, _], _ => rfl) (fun cdv A outer s H E hr =>
  (lss_one (ls_ret (le_lstRg1 rfl rfl T.n_list rfl T.n_range (le_cb (oc_max2 rfl) rfl T.n_max boot_max (la_cons le_int (la_cons (le_cb (oc_min2 rfl) rfl T.n_min boot_min (la_cons (le_var (pv 1)) (la_cons (le_cb oc_len rfl T.n_len boot_len (la_cons (le_var (pv 0)) la_nil)) la_nil))) la_nil)))))))
theorem sc__law_take : FnScope ["_law_pot_here", "_law_upto", "_law_digit", "_law_prime", "_law_blend"] ["_law_pot_here", "_law_upto"] (defScope s__law_take) := ⟨rfl, rfl, rfl, by decide +kernel, rfl, by decide +kernel, by decide +kernel⟩
theorem ok__law_take (T : Gx P K mg base) : Has P w K mg base 1 (He.ga K "_law_take") ["_law_pot_here", "_law_upto"] m__law_take := show Has P w K mg base 1 (He.ga K "_law_take") ["_law_pot_here", "_law_upto"] (fnBody 2 5 b__law_take) from has_of (N := ["_law_pot_here", "_law_upto", "_law_digit", "_law_prime", "_law_blend"]) (by kernel_rfl) (by kernel_rfl) T.d__law_take sc__law_take (fun _ _ _ _ _ _ us hl => match us, hl with | [_, _], _ => rfl) (fun cdv A outer s H E hr =>
  (lss_cons (ls_if (lt_cmp o2_gt (le_item (oi_ix (room_un hr 9)) (le_var (pv 0)) le_int) le_int (nomark _)) (lss_cons (ls_asg (js := [2]) (le_bin o2_mod (le_ct oc_int rfl T.n_int boot_int (la_cons (le_item (oi_ix (room_un hr 9)) (le_var (pv 0)) le_int) la_nil)) (le_var (pv 1))) (lg_name (pg_name (i := 2) sc__law_take.nd rfl (by first | exact Or.inl rfl | exact Or.inr rfl))))
  (lss_cons (ls_asg (js := []) (le_bin o2_div (le_item (oi_ix (room_un hr 9)) (le_var (pv 0)) le_int) (le_var (pv 1))) (lg_item (room_un hr 9) (le_var (pv 0)) le_int))
  (lss_one (ls_ret (le_var (pv 2)))))) lss_nil)
  (lss_cons (ls_asg (js := []) (le_bin o2_add (le_item (oi_ix (room_un hr 9)) (le_var (pv 0)) le_int) le_int) (lg_item (room_un hr 9) (le_var (pv 0)) le_int))
  (lss_cons (ls_asg (js := [3]) (le_item (oi_ix (room_un hr 9)) (le_lst (la_cons le_int (la_cons le_int (la_cons le_int (la_cons le_int (la_cons le_int la_nil)))))) (le_bin o2_mod (le_ct oc_int rfl T.n_int boot_int (la_cons (le_item (oi_ix (room_un hr 9)) (le_var (pv 0)) le_int) la_nil)) le_int)) (lg_name (pg_name (i := 3) sc__law_take.nd rfl (by first | exact Or.inl rfl | exact Or.inr rfl))))
  (lss_cons (ls_asg (js := [4]) (le_bin o2_mod (le_ct oc_int rfl T.n_int boot_int (la_cons (le_bin o2_pow (le_ct oc_int rfl T.n_int boot_int (la_cons (le_bin o2_add (le_bin o2_add (le_item (oi_ix (room_un hr 9)) (le_var (pv 0)) le_int) (le_bin o2_mulA (le_bin o2_mulA le_int (le_item (oi_ix (room_un hr 9)) (le_var (pv 0)) le_int)) (le_item (oi_ix (room_un hr 9)) (le_var (pv 0)) le_int))) le_int) la_nil)) le_int) la_nil)) (le_var (pv 3))) (lg_name (pg_name (i := 4) sc__law_take.nd rfl (by first | exact Or.inl rfl | exact Or.inr rfl))))
  (lss_one (ls_ret (le_bin o2_mod (le_ct oc_int rfl T.n_int boot_int (la_cons (le_bin o2_div (le_bin o2_mulA (le_var (pv 4)) (le_bin o2_add (le_bin o2_mod (le_ct oc_int rfl T.n_int boot_int (la_cons (le_var (pv 4)) la_nil)) le_int) (le_bin o2_mulA le_int (le_item (oi_ix (room_un hr 9)) (le_var (pv 0)) le_int)))) le_int) la_nil)) (le_var (pv 1))))))))))
theorem sc__law_of : FnScope ["_law_pot_here", "_law_some"] ["_law_pot_here", "_law_some"] (defScope s__law_of) := ⟨rfl, rfl, rfl, by decide +kernel, rfl, by decide +kernel, by decide +kernel⟩
theorem ok__law_of (T : Gx P K mg base) : Has P w K mg base 2 (He.ga K "_law_of") ["_law_pot_here", "_law_some"] m__law_of := show Has P w K mg base 2 (He.ga K "_law_of") ["_law_pot_here", "_law_some"] (fnBody 2 2 b__law_of) from has_of (N := ["_law_pot_here", "_law_some"]) (by kernel_rfl) (by kernel_rfl) T.d__law_of sc__law_of (fun _ _ _ _ _ _ us hl => match us, hl with | [_, _], _ => rfl) (fun cdv A outer s H E hr =>
  (lss_one (ls_ret (le_item (oi_ix (room_un hr 9)) (le_var (pv 1)) (leh_call (ok__law_take T) (hr.mono (by decide)) rfl T.g__law_take (la_cons (le_var (pv 0)) (la_cons (le_cb oc_len rfl T.n_len boot_len (la_cons (le_var (pv 1)) la_nil)) la_nil)))))))
theorem sc__law_odd : FnScope ["_law_pot_here", "_law_some"] ["_law_pot_here"] (defScope s__law_odd) := ⟨rfl, rfl, rfl, by decide +kernel, rfl, by decide +kernel, by decide +kernel⟩
theorem ok__law_odd (T : Gx P K mg base) : Has P w K mg base 3 (He.ga K "_law_odd") ["_law_pot_here"] m__law_odd := show Has P w K mg base 3 (He.ga K "_law_odd") ["_law_pot_here"] (fnBody 1 2 b__law_odd) from has_of (N := ["_law_pot_here", "_law_some"]) (by kernel_rfl) (by kernel_rfl) T.d__law_odd sc__law_odd (fun _ _ _ _ _ _ us hl => match us, hl with | [_], _ => rfl) (fun cdv A outer s H E hr =>
  (lss_cons (ls_asg (js := [1]) (le_lst (la_cons le_non (la_cons le_bl (la_cons le_bl (la_cons le_int (la_cons le_int (la_cons (le_un o1_neg le_int) (la_cons le_int (la_cons le_int (la_cons le_str (la_cons le_str (la_cons le_str (la_cons le_str (la_cons le_str (la_cons (le_tup la_nil) (la_cons (le_lst la_nil) (la_cons le_newD (la_cons (le_tup (la_cons le_int la_nil)) (la_cons (le_tup (la_cons (le_tup la_nil) la_nil)) (la_cons (le_lst (la_cons le_int la_nil)) (la_cons (le_tup (la_cons le_str la_nil)) (la_cons (le_lst (la_cons le_str la_nil)) la_nil)))))))))))))))))))))) (lg_name (pg_name (i := 1) sc__law_odd.nd rfl (by first | exact Or.inl rfl | exact Or.inr rfl))))
  (lss_one (ls_ret (leh_call (ok__law_of T) (hr.mono (by decide)) rfl T.g__law_of (la_cons (le_var (pv 0)) (la_cons (le_bin o2_add (le_var (pv 1)) (le_lst (la_cons (le_disp (room_un hr 9) (lp_cons le_str le_int lp_nil)) (la_cons (le_tup (la_cons le_str la_nil)) (la_cons (le_tup (la_cons le_str (la_cons (le_tup (la_cons le_str la_nil)) la_nil))) (la_cons le_str (la_cons (le_tup (la_cons le_str la_nil)) (la_cons (le_bin o2_pow le_int le_int) (la_cons le_str (la_cons (le_tup (la_cons (le_tup (la_cons le_str la_nil)) (la_cons le_str la_nil))) la_nil)))))))))) la_nil)))))))
theorem sc__law_made : FnScope ["_law_value", "_law_found"] ["_law_value"] (defScope s__law_made) := ⟨rfl, rfl, rfl, by decide +kernel, rfl, by decide +kernel, by decide +kernel⟩
theorem ok__law_made (T : Gx P K mg base) : Has P w K mg base 3 (He.ga K "_law_made") ["_law_value"] m__law_made := show Has P w K mg base 3 (He.ga K "_law_made") ["_law_value"] (fnBody 1 2 b__law_made) from has_of (N := ["_law_value", "_law_found"]) (by kernel_rfl) (by kernel_rfl) T.d__law_made sc__law_made (fun _ _ _ _ _ _ us hl => match us, hl with | [_], _ => rfl) (fun cdv A outer s H E hr =>
  (lss_cons (ls_asg (js := [1]) (le_lst (la_cons (le_excV T.xi (T.xcL aC_BadTongue (by decide)) (hr.mono (by decide)) rfl T.g_BadTongue (le_var (pv 0))) (la_cons (le_excV T.xi (T.xcL aC_NoWord (by decide)) (hr.mono (by decide)) rfl T.g_NoWord (le_var (pv 0))) (la_cons (le_excV T.xi (T.xcL aC_NoMetre (by decide)) (hr.mono (by decide)) rfl T.g_NoMetre (le_var (pv 0))) (la_cons (le_excV T.xi (T.xcL aC_BadMeasure (by decide)) (hr.mono (by decide)) rfl T.g_BadMeasure (le_var (pv 0))) (la_cons (le_excV T.xi (T.xcL aC_BadVerse (by decide)) (hr.mono (by decide)) rfl T.g_BadVerse (le_var (pv 0))) la_nil)))))) (lg_name (pg_name (i := 1) sc__law_made.nd rfl (by first | exact Or.inl rfl | exact Or.inr rfl))))
  (lss_cons (ls_expr (le_m ty_lst PySem.F.plainAttrs_list PySem.F.slot_list_extend PySem.F.type_list_extend om_extend (le_var (pv 1)) (la_cons (le_lst (la_cons (le_excV T.xi (T.xcL aC_BadRow (by decide)) (hr.mono (by decide)) rfl T.g_BadRow (le_var (pv 0))) (la_cons (le_excV T.xi (T.xcL aC_BadNotes (by decide)) (hr.mono (by decide)) rfl T.g_BadNotes (le_var (pv 0))) (la_cons (le_excV T.xi (T.xcL aC_BadNote (by decide)) (hr.mono (by decide)) rfl T.g_BadNote (le_var (pv 0))) (la_cons (le_excV T.xi (T.xcL aC_Full (by decide)) (hr.mono (by decide)) rfl T.g_Full (le_var (pv 0))) (la_cons (le_excV T.xi (T.xcL aC_NoNote (by decide)) (hr.mono (by decide)) rfl T.g_NoNote (le_var (pv 0))) la_nil)))))) la_nil)))
  (lss_cons (ls_expr (le_m ty_lst PySem.F.plainAttrs_list PySem.F.slot_list_extend PySem.F.type_list_extend om_extend (le_var (pv 1)) (la_cons (le_lst (la_cons (le_excV T.xi (T.xcL aC_OtherTongue (by decide)) (hr.mono (by decide)) rfl T.g_OtherTongue (le_var (pv 0))) (la_cons (le_excV T.xi (T.xcL aC_NoMeasure (by decide)) (hr.mono (by decide)) rfl T.g_NoMeasure (le_var (pv 0))) (la_cons (le_excV T.xi (T.xcL aC_BadClaim (by decide)) (hr.mono (by decide)) rfl T.g_BadClaim (le_var (pv 0))) (la_cons (le_excV T.xi (T.xcL aC_Crowded (by decide)) (hr.mono (by decide)) rfl T.g_Crowded (le_var (pv 0))) (la_cons (le_excV T.xi (T.xcL aC_TooMany (by decide)) (hr.mono (by decide)) rfl T.g_TooMany (le_var (pv 0))) la_nil)))))) la_nil)))
  (lss_cons (ls_expr (le_m ty_lst PySem.F.plainAttrs_list PySem.F.slot_list_extend PySem.F.type_list_extend om_extend (le_var (pv 1)) (la_cons (le_lst (la_cons (le_excV T.xi (T.xcL aC_NoPattern (by decide)) (hr.mono (by decide)) rfl T.g_NoPattern (le_var (pv 0))) (la_cons (le_excV T.xi (T.xcL aC_BadNumber (by decide)) (hr.mono (by decide)) rfl T.g_BadNumber (le_var (pv 0))) (la_cons (le_excV T.xi (T.xcL aC_BadOffers (by decide)) (hr.mono (by decide)) rfl T.g_BadOffers (le_var (pv 0))) (la_cons (le_excV T.xi (T.xcL aC_BadWishes (by decide)) (hr.mono (by decide)) rfl T.g_BadWishes (le_var (pv 0))) (la_cons (le_excV T.xi (T.xcL aC_Contrary (by decide)) (hr.mono (by decide)) rfl T.g_Contrary (le_var (pv 0))) la_nil)))))) la_nil)))
  (lss_cons (ls_expr (le_m ty_lst PySem.F.plainAttrs_list PySem.F.slot_list_extend PySem.F.type_list_extend om_extend (le_var (pv 1)) (la_cons (le_lst (la_cons (le_excV T.xi (T.xcL aC_NothingToUndo (by decide)) (hr.mono (by decide)) rfl T.g_NothingToUndo (le_var (pv 0))) (la_cons (le_excV T.xi (T.xcL aC_NothingToRedo (by decide)) (hr.mono (by decide)) rfl T.g_NothingToRedo (le_var (pv 0))) (la_cons (le_excV T.xi (T.xcL aC_NoTrial (by decide)) (hr.mono (by decide)) rfl T.g_NoTrial (le_var (pv 0))) (la_cons (le_excV T.xi (T.xcL aC_BadJournal (by decide)) (hr.mono (by decide)) rfl T.g_BadJournal (le_var (pv 0))) (la_cons (le_excV T.xi (T.xcL aC_BadLine (by decide)) (hr.mono (by decide)) rfl T.g_BadLine (le_var (pv 0))) la_nil)))))) la_nil)))
  (lss_one (ls_ret (le_var (pv 1))))))))))
theorem sc__law_marks : FnScope ["_law_error", "_law_found"] ["_law_error"] (defScope s__law_marks) := ⟨rfl, rfl, rfl, by decide +kernel, rfl, by decide +kernel, by decide +kernel⟩
theorem ok__law_marks (T : Gx P K mg base) : Has P w K mg base 1 (He.ga K "_law_marks") ["_law_error"] m__law_marks := show Has P w K mg base 1 (He.ga K "_law_marks") ["_law_error"] (fnBody 1 2 b__law_marks) from has_of (N := ["_law_error", "_law_found"]) (by kernel_rfl) (by kernel_rfl) T.d__law_marks sc__law_marks (fun _ _ _ _ _ _ us hl => match us, hl with | [_], _ => rfl) (fun cdv A outer s H E hr =>
  (lss_cons (ls_asg (js := [1]) (le_lst (la_cons (le_isi (v0 := .ref aC_BadTongue) (sc_isi_BadTongue T) (fun u h => h) rfl T.n_isinstance (le_var (pv 0)) (pe_glob rfl T.g_BadTongue rfl)) (la_cons (le_isi (v0 := .ref aC_NoWord) (sc_isi_NoWord T) (fun u h => h) rfl T.n_isinstance (le_var (pv 0)) (pe_glob rfl T.g_NoWord rfl)) (la_cons (le_isi (v0 := .ref aC_NoMetre) (sc_isi_NoMetre T) (fun u h => h) rfl T.n_isinstance (le_var (pv 0)) (pe_glob rfl T.g_NoMetre rfl)) la_nil)))) (lg_name (pg_name (i := 1) sc__law_marks.nd rfl (by first | exact Or.inl rfl | exact Or.inr rfl))))
  (lss_cons (ls_expr (le_m ty_lst PySem.F.plainAttrs_list PySem.F.slot_list_extend PySem.F.type_list_extend om_extend (le_var (pv 1)) (la_cons (le_lst (la_cons (le_isi (v0 := .ref aC_BadMeasure) (sc_isi_BadMeasure T) (fun u h => h) rfl T.n_isinstance (le_var (pv 0)) (pe_glob rfl T.g_BadMeasure rfl)) (la_cons (le_isi (v0 := .ref aC_BadVerse) (sc_isi_BadVerse T) (fun u h => h) rfl T.n_isinstance (le_var (pv 0)) (pe_glob rfl T.g_BadVerse rfl)) (la_cons (le_isi (v0 := .ref aC_BadRow) (sc_isi_BadRow T) (fun u h => h) rfl T.n_isinstance (le_var (pv 0)) (pe_glob rfl T.g_BadRow rfl)) la_nil)))) la_nil)))
  (lss_cons (ls_expr (le_m ty_lst PySem.F.plainAttrs_list PySem.F.slot_list_extend PySem.F.type_list_extend om_extend (le_var (pv 1)) (la_cons (le_lst (la_cons (le_isi (v0 := .ref aC_BadNotes) (sc_isi_BadNotes T) (fun u h => h) rfl T.n_isinstance (le_var (pv 0)) (pe_glob rfl T.g_BadNotes rfl)) (la_cons (le_isi (v0 := .ref aC_BadNote) (sc_isi_BadNote T) (fun u h => h) rfl T.n_isinstance (le_var (pv 0)) (pe_glob rfl T.g_BadNote rfl)) (la_cons (le_isi (v0 := .ref aC_Full) (sc_isi_Full T) (fun u h => h) rfl T.n_isinstance (le_var (pv 0)) (pe_glob rfl T.g_Full rfl)) la_nil)))) la_nil)))
  (lss_cons (ls_expr (le_m ty_lst PySem.F.plainAttrs_list PySem.F.slot_list_extend PySem.F.type_list_extend om_extend (le_var (pv 1)) (la_cons (le_lst (la_cons (le_isi (v0 := .ref aC_NoNote) (sc_isi_NoNote T) (fun u h => h) rfl T.n_isinstance (le_var (pv 0)) (pe_glob rfl T.g_NoNote rfl)) (la_cons (le_isi (v0 := .ref aC_OtherTongue) (sc_isi_OtherTongue T) (fun u h => h) rfl T.n_isinstance (le_var (pv 0)) (pe_glob rfl T.g_OtherTongue rfl)) (la_cons (le_isi (v0 := .ref aC_NoMeasure) (sc_isi_NoMeasure T) (fun u h => h) rfl T.n_isinstance (le_var (pv 0)) (pe_glob rfl T.g_NoMeasure rfl)) la_nil)))) la_nil)))
  (lss_cons (ls_expr (le_m ty_lst PySem.F.plainAttrs_list PySem.F.slot_list_extend PySem.F.type_list_extend om_extend (le_var (pv 1)) (la_cons (le_lst (la_cons (le_isi (v0 := .ref aC_BadClaim) (sc_isi_BadClaim T) (fun u h => h) rfl T.n_isinstance (le_var (pv 0)) (pe_glob rfl T.g_BadClaim rfl)) (la_cons (le_isi (v0 := .ref aC_Crowded) (sc_isi_Crowded T) (fun u h => h) rfl T.n_isinstance (le_var (pv 0)) (pe_glob rfl T.g_Crowded rfl)) (la_cons (le_isi (v0 := .ref aC_TooMany) (sc_isi_TooMany T) (fun u h => h) rfl T.n_isinstance (le_var (pv 0)) (pe_glob rfl T.g_TooMany rfl)) la_nil)))) la_nil)))
  (lss_cons (ls_expr (le_m ty_lst PySem.F.plainAttrs_list PySem.F.slot_list_extend PySem.F.type_list_extend om_extend (le_var (pv 1)) (la_cons (le_lst (la_cons (le_isi (v0 := .ref aC_NoPattern) (sc_isi_NoPattern T) (fun u h => h) rfl T.n_isinstance (le_var (pv 0)) (pe_glob rfl T.g_NoPattern rfl)) (la_cons (le_isi (v0 := .ref aC_BadNumber) (sc_isi_BadNumber T) (fun u h => h) rfl T.n_isinstance (le_var (pv 0)) (pe_glob rfl T.g_BadNumber rfl)) (la_cons (le_isi (v0 := .ref aC_BadOffers) (sc_isi_BadOffers T) (fun u h => h) rfl T.n_isinstance (le_var (pv 0)) (pe_glob rfl T.g_BadOffers rfl)) la_nil)))) la_nil)))
  (lss_cons (ls_expr (le_m ty_lst PySem.F.plainAttrs_list PySem.F.slot_list_extend PySem.F.type_list_extend om_extend (le_var (pv 1)) (la_cons (le_lst (la_cons (le_isi (v0 := .ref aC_BadWishes) (sc_isi_BadWishes T) (fun u h => h) rfl T.n_isinstance (le_var (pv 0)) (pe_glob rfl T.g_BadWishes rfl)) (la_cons (le_isi (v0 := .ref aC_Contrary) (sc_isi_Contrary T) (fun u h => h) rfl T.n_isinstance (le_var (pv 0)) (pe_glob rfl T.g_Contrary rfl)) (la_cons (le_isi (v0 := .ref aC_NothingToUndo) (sc_isi_NothingToUndo T) (fun u h => h) rfl T.n_isinstance (le_var (pv 0)) (pe_glob rfl T.g_NothingToUndo rfl)) la_nil)))) la_nil)))
  (lss_cons (ls_expr (le_m ty_lst PySem.F.plainAttrs_list PySem.F.slot_list_extend PySem.F.type_list_extend om_extend (le_var (pv 1)) (la_cons (le_lst (la_cons (le_isi (v0 := .ref aC_NothingToRedo) (sc_isi_NothingToRedo T) (fun u h => h) rfl T.n_isinstance (le_var (pv 0)) (pe_glob rfl T.g_NothingToRedo rfl)) (la_cons (le_isi (v0 := .ref aC_NoTrial) (sc_isi_NoTrial T) (fun u h => h) rfl T.n_isinstance (le_var (pv 0)) (pe_glob rfl T.g_NoTrial rfl)) (la_cons (le_isi (v0 := .ref aC_BadJournal) (sc_isi_BadJournal T) (fun u h => h) rfl T.n_isinstance (le_var (pv 0)) (pe_glob rfl T.g_BadJournal rfl)) la_nil)))) la_nil)))
  (lss_cons (ls_expr (le_m ty_lst PySem.F.plainAttrs_list PySem.F.slot_list_extend PySem.F.type_list_extend om_extend (le_var (pv 1)) (la_cons (le_lst (la_cons (le_isi (v0 := .ref aC_BadLine) (sc_isi_BadLine T) (fun u h => h) rfl T.n_isinstance (le_var (pv 0)) (pe_glob rfl T.g_BadLine rfl)) la_nil)) la_nil)))
  (lss_one (ls_ret (le_var (pv 1))))))))))))))
theorem sc__law_right : FnScope ["_law_pot_here", "_law_value", "_law_made_here", "_law_spot", "_law_error", "_law_base", "_law_place"] ["_law_pot_here"] (defScope s__law_right) := ⟨rfl, rfl, rfl, by decide +kernel, rfl, by decide +kernel, by decide +kernel⟩
theorem ok__law_right (T : Gx P K mg base) : HasG P w K mg base 4 (He.ga K "_law_right") ["_law_pot_here"] m__law_right := show HasG P w K mg base 4 (He.ga K "_law_right") ["_law_pot_here"] (fnBody 1 7 b__law_right) from hasG_of (N := ["_law_pot_here", "_law_value", "_law_made_here", "_law_spot", "_law_error", "_law_base", "_law_place"]) (by kernel_rfl) (by kernel_rfl) T.d__law_right sc__law_right (fun _ _ _ _ _ _ us hl => match us, hl with | [_], _ => rfl) (fun cdv A outer s H E quiet hr =>
  (lss_cons (ls_asg (js := [1]) (leh_call (ok__law_of T) (hr.mono (by decide)) rfl T.g__law_of (la_cons (le_var (pv 0)) (la_cons (le_lst (la_cons (leh_call (ok__law_odd T) (hr.mono (by decide)) rfl T.g__law_odd (la_cons (le_var (pv 0)) la_nil)) (la_cons (le_tup (la_cons (leh_call (ok__law_odd T) (hr.mono (by decide)) rfl T.g__law_odd (la_cons (le_var (pv 0)) la_nil)) (la_cons le_int la_nil))) (la_cons (le_lst (la_cons (leh_call (ok__law_odd T) (hr.mono (by decide)) rfl T.g__law_odd (la_cons (le_var (pv 0)) la_nil)) la_nil)) (la_cons (le_disp (room_un hr 9) (lp_cons le_str (leh_call (ok__law_odd T) (hr.mono (by decide)) rfl T.g__law_odd (la_cons (le_var (pv 0)) la_nil)) lp_nil)) la_nil))))) la_nil))) (lg_name (pg_name (i := 1) sc__law_right.nd rfl (by first | exact Or.inl rfl | exact Or.inr rfl))))
  (lss_cons (ls_asg (js := [2]) (leh_call (ok__law_made T) (hr.mono (by decide)) rfl T.g__law_made (la_cons (le_var (pv 1)) la_nil)) (lg_name (pg_name (i := 2) sc__law_right.nd rfl (by first | exact Or.inl rfl | exact Or.inr rfl))))
  (lss_cons (ls_for (js := [3, 4]) PassesOwn.never rfl (li_enum rfl T.n_enumerate (le_var (pv 2))) (lg_tup (js := [3, 4]) (n := 2) rfl (lgs_cons (LG.wide (js := [3]) (lg_name (pg_name (i := 3) sc__law_right.nd rfl (by first | exact Or.inl rfl | exact Or.inr rfl))) (by decide)) (lgs_cons (LG.wide (js := [4]) (lg_name (pg_name (i := 4) sc__law_right.nd rfl (by first | exact Or.inl rfl | exact Or.inr rfl))) (by decide)) lgs_nil))) (lss_cons (ls_if (lt_w (lw_or (lt_not (lt_tru (le_isi (v0 := .ref aC_MetreError) (sc_isi_MetreError T) (fun u h => h) rfl T.n_isinstance (le_var (pv 4)) (pe_glob rfl T.g_MetreError rfl)) fun _ => rfl)) (lw_or1 (lt_not (lt_tru (le_isi (v0 := .ty "ValueError") (sc_isi_ValueError T) (fun u h => h) rfl T.n_isinstance (le_var (pv 4)) (pe_bltn rfl T.n_ValueError PyProof.Rows.Boot.«ValueError» rfl)) fun _ => rfl))))) (lss_one (ls_ret le_bl)) lss_nil)
  (lss_one (ls_if (lt_w (lw_or (lt_cmp (o2_neA (room_un hr 64)) (le_cb (oc_reprD T.sysm quiet (room_un hr 40)) rfl T.n_repr boot_repr (la_cons (le_xval (L := exL) (fun C h => (T.eiL C h).2) (le_var (pv 4))) la_nil)) (le_cb (oc_reprD T.sysm quiet (room_un hr 40)) rfl T.n_repr boot_repr (la_cons (le_var (pv 1)) la_nil)) (nomark _)) (lw_or1 (lt_cmp (o2_neA (room_un hr 64)) (leh_call (ok__law_marks T) (hr.mono (by decide)) rfl T.g__law_marks (la_cons (le_var (pv 4)) la_nil)) (le_lc (js := [6]) (own := [("_law_place", 6)]) rfl sc__law_right.nd (li_range1 rfl T.n_range (le_cb oc_len rfl T.n_len boot_len (la_cons (le_var (pv 2)) la_nil))) (blkOk_by (N := ["_law_pot_here", "_law_value", "_law_made_here", "_law_spot", "_law_error", "_law_base", "_law_place"]) (sc := defScope s__law_right) (by decide +kernel)) (fun _ _ _ _ _ => (lg_name (pg_name (i := 6) sc__law_right.nd rfl (by first | exact Or.inl rfl | exact Or.inr rfl)))) (fun _ _ _ _ _ => lts_nil) (fun _ _ _ _ _ => (le_cmp (o2_eqA (room_un hr 64)) (le_var (pv 3)) (le_var (pv 6)) (nomark _))) (by decide)) (nomark _))))) (lss_one (ls_ret le_bl)) lss_nil))))
  (lss_cons (ls_asg (js := [5]) (le_excV T.xi (T.xcL aC_MetreError (by decide)) (hr.mono (by decide)) rfl T.g_MetreError (le_var (pv 1))) (lg_name (pg_name (i := 5) sc__law_right.nd rfl (by first | exact Or.inl rfl | exact Or.inr rfl))))
  (lss_one (ls_ret (DL.le_and (le_cmp (o2_eqA (room_un hr 64)) (le_cb (oc_reprD T.sysm quiet (room_un hr 40)) rfl T.n_repr boot_repr (la_cons (le_xval (L := exL) (fun C h => (T.eiL C h).2) (le_var (pv 5))) la_nil)) (le_cb (oc_reprD T.sysm quiet (room_un hr 40)) rfl T.n_repr boot_repr (la_cons (le_var (pv 1)) la_nil)) (nomark _)) (DL.le_and (le_isi (v0 := .ty "ValueError") (sc_isi_ValueError T) (fun u h => h) rfl T.n_isinstance (le_var (pv 5)) (pe_bltn rfl T.n_ValueError PyProof.Rows.Boot.«ValueError» rfl)) (le_one (le_not (le_cb (oc_any rfl) rfl T.n_any boot_any (la_cons (leh_call (ok__law_marks T) (hr.mono (by decide)) rfl T.g__law_marks (la_cons (le_var (pv 5)) la_nil)) la_nil)))))))))))))
theorem sc__law_pot : FnScope ["_law_script", "_law_k", "_law_cell", "_law_own", "_law_small"] ["_law_script", "_law_k"] (defScope s__law_pot) := ⟨rfl, rfl, rfl, by decide +kernel, rfl, by decide +kernel, by decide +kernel⟩
theorem ok__law_pot (T : Gx P K mg base) : Has P w K mg base 1 (He.ga K "_law_pot") ["_law_script", "_law_k"] m__law_pot := show Has P w K mg base 1 (He.ga K "_law_pot") ["_law_script", "_law_k"] (fnBody 2 5 b__law_pot) from has_of (N := ["_law_script", "_law_k", "_law_cell", "_law_own", "_law_small"]) (by kernel_rfl) (by kernel_rfl) T.d__law_pot sc__law_pot (fun _ _ _ _ _ _ us hl => match us, hl with | [_, _], _ => rfl) (fun cdv A outer s H E hr =>
  (lss_cons (ls_asg (js := [2]) (DL.le_if (lt_cmp o2_lt (le_var (pv 1)) (le_cb oc_len rfl T.n_len boot_len (la_cons (le_var (pv 0)) la_nil)) (nomark _)) (le_item (oi_ix (room_un hr 9)) (le_var (pv 0)) (le_var (pv 1))) (le_bin o2_add (le_bin o2_mulA le_int (le_var (pv 1))) le_int)) (lg_name (pg_name (i := 2) sc__law_pot.nd rfl (by first | exact Or.inl rfl | exact Or.inr rfl))))
  (lss_cons (ls_asg (js := [3]) (le_bin o2_mulA (le_bin o2_mod (le_ct oc_int rfl T.n_int boot_int (la_cons (le_cb oc_abs rfl T.n_abs boot_abs (la_cons (le_var (pv 2)) la_nil)) la_nil)) (le_bin o2_pow (le_bin o2_pow le_int le_int) le_int)) (le_ct oc_int rfl T.n_int boot_int (la_cons (le_cmp o2_ge (le_cb oc_abs rfl T.n_abs boot_abs (la_cons (le_var (pv 2)) la_nil)) (le_bin o2_pow le_int le_int) (nomark _)) la_nil))) (lg_name (pg_name (i := 3) sc__law_pot.nd rfl (by first | exact Or.inl rfl | exact Or.inr rfl))))
  (lss_cons (ls_asg (js := [4]) (le_bin o2_mod (le_ct oc_int rfl T.n_int boot_int (la_cons (le_var (pv 2)) la_nil)) le_int) (lg_name (pg_name (i := 4) sc__law_pot.nd rfl (by first | exact Or.inl rfl | exact Or.inr rfl))))
  (lss_one (ls_ret (le_lst (la_cons (le_var (pv 3)) (la_cons (le_bin o2_mod (le_ct oc_int rfl T.n_int boot_int (la_cons (le_bin o2_add (le_bin o2_add (le_bin o2_mulA (le_var (pv 4)) le_int) (le_bin o2_mulA (le_bin o2_mulA le_int (le_var (pv 1))) (le_var (pv 1)))) le_int) la_nil)) le_int) (la_cons le_int la_nil))))))))))
theorem sc_law : FnScope ["_law_script", "_law_place"] ["_law_script"] (defScope s_law) := ⟨rfl, rfl, rfl, by decide +kernel, rfl, by decide +kernel, by decide +kernel⟩
theorem ok_law (T : Gx P K mg base) {fd : FuncData} (F : FunD K "law" "law" (defArgs s_law) (defBody s_law) (defScope s_law) [] [] (He.ga K "law") fd) : FnG P w K mg base 5 (He.ga K "law") fd ["_law_script"] (spD P w K 1 m_law) := show FnG P w K mg base 5 (He.ga K "law") fd ["_law_script"] (spD P w K 1 (fnBody 1 2 b_law)) from lawG_of (N := ["_law_script", "_law_place"]) (by kernel_rfl) (by kernel_rfl) F sc_law (fun cdv A outer s H E quiet hr =>
  (lss_one (ls_ret (le_cb (oc_all rfl) rfl T.n_all boot_all (la_cons (le_lc (js := [1]) (own := [("_law_place", 1)]) rfl sc_law.nd (li_itA (leh_call (ok__law_places T) (hr.mono (by decide)) rfl T.g__law_places (la_cons (le_var (pv 0)) (la_cons le_int la_nil)))) (blkOk_by (N := ["_law_script", "_law_place"]) (sc := defScope s_law) (by decide +kernel)) (fun _ _ _ _ _ => (lg_name (pg_name (i := 1) sc_law.nd rfl (by first | exact Or.inl rfl | exact Or.inr rfl)))) (fun _ _ _ _ _ => lts_nil) (fun _ _ _ _ _ => (leh_callG (ok__law_right T).away quiet (hr.mono (by decide)) rfl T.g__law_right (la_cons (leh_call (ok__law_pot T) (hr.mono (by decide)) rfl T.g__law_pot (la_cons (le_var (pv 0)) (la_cons (le_var (pv 1)) la_nil))) la_nil))) (by decide)) la_nil)))))
end
theorem glo_law {K : PySem.W.Frag} {h : Heap} {mg : Str → Option Value} (X : K.In h) (G : h.Ns mainGlobals mg) (c : SaysM exs fns K) : mg "law" = some (.ref (He.ga K "law")) := He.glo_ok X G (c.ok 109 rfl)
theorem fx_of {K : PySem.W.Frag} {h : Heap} {mg : Str → Option Value} (X : K.In h) (G : h.Ns mainGlobals mg) (c : SaysM exs fns K) : Fx K mg where
  n_len := He.free_ok X G (c.ok 0 rfl)
  n_min := He.free_ok X G (c.ok 1 rfl)
  n_max := He.free_ok X G (c.ok 2 rfl)
  n_list := He.free_ok X G (c.ok 3 rfl)
  n_range := He.free_ok X G (c.ok 4 rfl)
  g__law_places := He.glo_ok X G (c.ok 5 rfl)
  n_int := He.free_ok X G (c.ok 6 rfl)
  g__law_take := He.glo_ok X G (c.ok 7 rfl)
  g__law_of := He.glo_ok X G (c.ok 8 rfl)
  g__law_odd := He.glo_ok X G (c.ok 9 rfl)
  xcL := (fun C hC => xc_of (List.all_eq_true.mp (c.ok 10 (f := fun K => exL.all fun C => xcB aC_MetreError C K) rfl) C hC))
  g_BadTongue := gloB_ok X G (c.ok 11 rfl)
  g_NoWord := gloB_ok X G (c.ok 12 rfl)
  g_NoMetre := gloB_ok X G (c.ok 13 rfl)
  g_BadMeasure := gloB_ok X G (c.ok 14 rfl)
  g_BadVerse := gloB_ok X G (c.ok 15 rfl)
  g_BadRow := gloB_ok X G (c.ok 16 rfl)
  g_BadNotes := gloB_ok X G (c.ok 17 rfl)
  g_BadNote := gloB_ok X G (c.ok 18 rfl)
  g_Full := gloB_ok X G (c.ok 19 rfl)
  g_NoNote := gloB_ok X G (c.ok 20 rfl)
  g_OtherTongue := gloB_ok X G (c.ok 21 rfl)
  g_NoMeasure := gloB_ok X G (c.ok 22 rfl)
  g_BadClaim := gloB_ok X G (c.ok 23 rfl)
  g_Crowded := gloB_ok X G (c.ok 24 rfl)
  g_TooMany := gloB_ok X G (c.ok 25 rfl)
  g_NoPattern := gloB_ok X G (c.ok 26 rfl)
  g_BadNumber := gloB_ok X G (c.ok 27 rfl)
  g_BadOffers := gloB_ok X G (c.ok 28 rfl)
  g_BadWishes := gloB_ok X G (c.ok 29 rfl)
  g_Contrary := gloB_ok X G (c.ok 30 rfl)
  g_NothingToUndo := gloB_ok X G (c.ok 31 rfl)
  g_NothingToRedo := gloB_ok X G (c.ok 32 rfl)
  g_NoTrial := gloB_ok X G (c.ok 33 rfl)
  g_BadJournal := gloB_ok X G (c.ok 34 rfl)
  g_BadLine := gloB_ok X G (c.ok 35 rfl)
  g__law_made := He.glo_ok X G (c.ok 36 rfl)
  n_enumerate := He.free_ok X G (c.ok 37 rfl)
  eiL := (fun C hC => ei_of (List.all_eq_true.mp (c.ok 38 (f := fun K => exL.all fun C => eiB C K) rfl) C hC))
  ko_MetreError := of_decide_eq_true (c.ok 39 rfl)
  kn_MetreError := of_decide_eq_true (c.ok 40 rfl)
  g_MetreError := gloB_ok X G (c.ok 41 rfl)
  n_isinstance := He.free_ok X G (c.ok 42 rfl)
  ko_ValueError := of_decide_eq_true (c.ok 43 rfl)
  kn_ValueError := of_decide_eq_true (c.ok 44 rfl)
  n_ValueError := He.free_ok X G (c.ok 45 rfl)
  sysm := (Option.isSome_iff_exists.mp (c.ok 46 (f := fun K => (K.lookup sysModules).isSome) rfl))
  n_repr := He.free_ok X G (c.ok 47 rfl)
  ko_BadTongue := of_decide_eq_true (c.ok 48 rfl)
  kn_BadTongue := of_decide_eq_true (c.ok 49 rfl)
  ko_NoWord := of_decide_eq_true (c.ok 50 rfl)
  kn_NoWord := of_decide_eq_true (c.ok 51 rfl)
  ko_NoMetre := of_decide_eq_true (c.ok 52 rfl)
  kn_NoMetre := of_decide_eq_true (c.ok 53 rfl)
  ko_BadMeasure := of_decide_eq_true (c.ok 54 rfl)
  kn_BadMeasure := of_decide_eq_true (c.ok 55 rfl)
  ko_BadVerse := of_decide_eq_true (c.ok 56 rfl)
  kn_BadVerse := of_decide_eq_true (c.ok 57 rfl)
  ko_BadRow := of_decide_eq_true (c.ok 58 rfl)
  kn_BadRow := of_decide_eq_true (c.ok 59 rfl)
  ko_BadNotes := of_decide_eq_true (c.ok 60 rfl)
  kn_BadNotes := of_decide_eq_true (c.ok 61 rfl)
  ko_BadNote := of_decide_eq_true (c.ok 62 rfl)
  kn_BadNote := of_decide_eq_true (c.ok 63 rfl)
  ko_Full := of_decide_eq_true (c.ok 64 rfl)
  kn_Full := of_decide_eq_true (c.ok 65 rfl)
  ko_NoNote := of_decide_eq_true (c.ok 66 rfl)
  kn_NoNote := of_decide_eq_true (c.ok 67 rfl)
  ko_OtherTongue := of_decide_eq_true (c.ok 68 rfl)
  kn_OtherTongue := of_decide_eq_true (c.ok 69 rfl)
  ko_NoMeasure := of_decide_eq_true (c.ok 70 rfl)
  kn_NoMeasure := of_decide_eq_true (c.ok 71 rfl)
  ko_BadClaim := of_decide_eq_true (c.ok 72 rfl)
  kn_BadClaim := of_decide_eq_true (c.ok 73 rfl)
  ko_Crowded := of_decide_eq_true (c.ok 74 rfl)
  kn_Crowded := of_decide_eq_true (c.ok 75 rfl)
  ko_TooMany := of_decide_eq_true (c.ok 76 rfl)
  kn_TooMany := of_decide_eq_true (c.ok 77 rfl)
  ko_NoPattern := of_decide_eq_true (c.ok 78 rfl)
  kn_NoPattern := of_decide_eq_true (c.ok 79 rfl)
  ko_BadNumber := of_decide_eq_true (c.ok 80 rfl)
  kn_BadNumber := of_decide_eq_true (c.ok 81 rfl)
  ko_BadOffers := of_decide_eq_true (c.ok 82 rfl)
  kn_BadOffers := of_decide_eq_true (c.ok 83 rfl)
  ko_BadWishes := of_decide_eq_true (c.ok 84 rfl)
  kn_BadWishes := of_decide_eq_true (c.ok 85 rfl)
  ko_Contrary := of_decide_eq_true (c.ok 86 rfl)
  kn_Contrary := of_decide_eq_true (c.ok 87 rfl)
  ko_NothingToUndo := of_decide_eq_true (c.ok 88 rfl)
  kn_NothingToUndo := of_decide_eq_true (c.ok 89 rfl)
  ko_NothingToRedo := of_decide_eq_true (c.ok 90 rfl)
  kn_NothingToRedo := of_decide_eq_true (c.ok 91 rfl)
  ko_NoTrial := of_decide_eq_true (c.ok 92 rfl)
  kn_NoTrial := of_decide_eq_true (c.ok 93 rfl)
  ko_BadJournal := of_decide_eq_true (c.ok 94 rfl)
  kn_BadJournal := of_decide_eq_true (c.ok 95 rfl)
  ko_BadLine := of_decide_eq_true (c.ok 96 rfl)
  kn_BadLine := of_decide_eq_true (c.ok 97 rfl)
  g__law_marks := He.glo_ok X G (c.ok 98 rfl)
  n_any := He.free_ok X G (c.ok 99 rfl)
  g__law_right := He.glo_ok X G (c.ok 100 rfl)
  n_abs := He.free_ok X G (c.ok 101 rfl)
  g__law_pot := He.glo_ok X G (c.ok 102 rfl)
  n_all := He.free_ok X G (c.ok 103 rfl)
  xi1 := (c.ok 104 rfl)
  xi2 := (c.ok 105 rfl)
  xi3 := (c.ok 106 rfl)
  blt := (c.ok 107 rfl)
  tabs := of_decide_eq_true (c.ok 108 rfl)
  d__law_places := c.def_ 0 rfl
  d__law_take := c.def_ 1 rfl
  d__law_of := c.def_ 2 rfl
  d__law_odd := c.def_ 3 rfl
  d__law_made := c.def_ 4 rfl
  d__law_marks := c.def_ 5 rfl
  d__law_right := c.def_ 6 rfl
  d__law_pot := c.def_ 7 rfl
  d_law := c.def_ 8 rfl
end G
namespace G
open PySem PySem.Spec PyProof.Rows L2 DL
theorem pows : ∃ A B C : Int, 0 < B ∧ (∀ μ, vPow [.int 10, .int 60] μ = .ok (.int A) μ) ∧ (∀ μ, vPow [.int A, .int 5] μ = .ok (.int B) μ) ∧ ∀ μ, vPow [.int 10, .int 18] μ = .ok (.int C) μ :=
  ⟨10 ^ 60, (10 ^ 60) ^ 5, 10 ^ 18, by decide, fun μ => by kernel_rfl, fun μ => by kernel_rfl, fun μ => by kernel_rfl⟩
theorem pot_cell {μ : Sto} {ns : List Int} {j : Nat} (h : seqAt μ 0 = some (ns.map .int)) (hd : dctAt μ 0 = none) (hj : j < 64) : ∃ c : Int, (dIf (dTest (dApp vLt (dCons (dVar 1) (dCons (dApp vLen (dCons (dVar 0) dNil)) dNil)))) (dApp vIx (dCons (dVar 0) (dCons (dVar 1) dNil))) (dApp vAdd (dCons (dApp vMulA (dCons (dC (.int 97)) (dCons (dVar 1) dNil))) (dCons (dC (.int 71)) dNil)))) [some (.ref 0), some (.int j), none, none, none] μ = .ok (.int c) μ := by
  by_cases c : j < ns.length
  · refine ⟨ns[j], ?_⟩
    simp [dIf, dTest, dApp, dCons, dVar, dNil, len_0 h hd, lt_i, c]
    rw [ix_0 h hd (p := .int ns[j])]
    simp [L2.atI, L2.ixN, c]
  · refine ⟨97 * j + 71, ?_⟩
    simp [dIf, dTest, dApp, dCons, dVar, dC, dNil, len_0 h hd, lt_i, c]
    rw [mul_l (by omega)]
    simp [add_i]
theorem pot_ok {μ : Sto} {ns : List Int} {j : Nat} (h : seqAt μ 0 = some (ns.map .int)) (hd : dctAt μ 0 = none) (hj : j < 64) :
    ∃ p : Pot, PotOk p 0 ∧ m__law_pot [.ref 0, .int j] μ = .ok (.ref μ.length) (μ ++ [potO p]) := by
  obtain ⟨c, hc⟩ := pot_cell h hd hj
  obtain ⟨A, B, C, hB, p1, p2, p3⟩ := pows
  generalize ha : (if c < 0 then -c else c) = a at *
  refine ⟨(a % B * (if decide (C ≤ a) then 1 else 0), (c % 2305843009213693951 * 80201 + 8329 * j * j + 113) % 2305843009213693921, 0), ⟨?_, by simp only; omega, by simp only; omega, by simp only; omega, by simp only; omega⟩, ?_⟩
  · refine Int.mul_nonneg (Int.emod_nonneg _ (by omega)) ?_
    split <;> omega
  · unfold m__law_pot b__law_pot fnBody
    simp only [List.length_cons, List.length_nil, Nat.reduceAdd, if_true, List.map_cons, List.map_nil, sSeq, sAsg, sRet, List.cons_append, List.nil_append, Nat.reduceSub, List.replicate]
    rw [hc]
    simp only [bindOk, gSet, List.set, dApp, dCons, dVar, dC, dNil, List.getElem?_cons_zero, List.getElem?_cons_succ, abs_i, int_i, int_b, p1, p2, p3, ge_i, ha]
    rw [mod_p hB]
    simp only [bindOk]
    rw [mul_r (by split <;> omega)]
    simp only [bindOk, List.set, List.getElem?_cons_zero, List.getElem?_cons_succ, int_i]
    rw [mod_p (by omega)]
    simp only [bindOk, List.set, List.getElem?_cons_zero, List.getElem?_cons_succ, int_i]
    rw [mul_r (by omega)]
    simp only [bindOk]
    rw [mul_l (by omega)]
    simp only [bindOk, List.getElem?_cons_zero, List.getElem?_cons_succ]
    rw [mul_r (by omega)]
    simp only [bindOk, add_i, int_i]
    rw [mod_p (by omega)]
    simp only [bindOk]
    rw [lst_k (by simp)]
    simp only [bindOk]
    rfl
theorem take_spec : TakeSpec m__law_take := fun p c u h hc hu hu2 => by
  obtain ⟨own, mix, cnt⟩ := p
  obtain ⟨h2, h3, h4, h5, h6⟩ := h
  simp only at h2 h3 h4 h5 h6
  by_cases co : 0 < own
  · refine ⟨(own % u).toNat, (own / u, mix, cnt), ?_, ⟨?_, h3, h4, h5, by simp only; omega⟩, fun μ i h1 => ⟨[], ?_⟩⟩
    · have := Int.emod_nonneg own (show u ≠ 0 by omega)
      have := Int.emod_lt_of_pos own hu
      omega
    · exact Int.ediv_nonneg h2 (by omega)
    · have h1 : μ[i]? = some (.lst [.int own, .int mix, .int cnt]) := h1
      obtain ⟨x0, x1, x2⟩ := vix3 h1
      have e : (((own % u).toNat : Nat) : Int) = own % u := Int.toNat_of_nonneg (Int.emod_nonneg own (by omega))
      rw [e, List.append_nil]
      unfold m__law_take b__law_take fnBody
      simp only [List.length_cons, List.length_nil, Nat.reduceAdd, if_true, List.map_cons, List.map_nil, sSeq, sIf, dTest, dApp, dCons, dVar, dC, dNil, List.cons_append, List.nil_append, Nat.reduceSub, List.replicate, List.getElem?_cons_zero, bindOk, x0, gt_i, decide_eq_true co, sAsg, int_i,
        List.getElem?_cons_succ, mod_p hu, gSet, List.set, div_p hu (by omega), gItem, st_l h1 (z := 0) (n := 0) rfl, sRet]
      rfl
  · have e0 : decide (0 < own) = false := decide_eq_false co
    have pr : ∃ p : Int, 2147483563 ≤ p ∧ p ≤ 2147483647 ∧ L2.atI [PV.int 2147483647, .int 2147483629, .int 2147483587, .int 2147483579, .int 2147483563] ((cnt + 1) % 5) = some (.int p) := by
      have h1 := Int.emod_nonneg (cnt + 1) (show (5 : Int) ≠ 0 by omega)
      have h2 := Int.emod_lt_of_pos (cnt + 1) (show (0 : Int) < 5 by omega)
      generalize (cnt + 1) % 5 = r at *
      have : r = 0 ∨ r = 1 ∨ r = 2 ∨ r = 3 ∨ r = 4 := by omega
      rcases this with e | e | e | e | e <;> subst e
      · exact ⟨2147483647, by omega, by omega, rfl⟩
      · exact ⟨2147483629, by omega, by omega, rfl⟩
      · exact ⟨2147483587, by omega, by omega, rfl⟩
      · exact ⟨2147483579, by omega, by omega, rfl⟩
      · exact ⟨2147483563, by omega, by omega, rfl⟩
    obtain ⟨p, p1, p2, hp⟩ := pr
    generalize hb : mix + 95111 * (cnt + 1) * (cnt + 1) + 83 = b
    have hb1 : b.natAbs < 2 ^ 80 := by
      have s1 : (cnt + 1) * (cnt + 1) ≤ 1001 * 1001 := Int.mul_le_mul (by omega) (by omega) (by omega) (by omega)
      have s2 : 0 ≤ (cnt + 1) * (cnt + 1) := Int.mul_nonneg (by omega) (by omega)
      have s3 : 95111 * (cnt + 1) * (cnt + 1) = 95111 * ((cnt + 1) * (cnt + 1)) := Int.mul_assoc ..
      omega
    have q1 := Int.emod_nonneg (b ^ 3) (show p ≠ 0 by omega)
    have q2 := Int.emod_lt_of_pos (b ^ 3) (show 0 < p by omega)
    generalize hq : b ^ 3 % p = q at *
    generalize hr : q * (q % 10039 + 91 * (cnt + 1)) / 131 = r
    have t1 := Int.emod_nonneg r (show u ≠ 0 by omega)
    have t2 := Int.emod_lt_of_pos r hu
    refine ⟨(r % u).toNat, (own, mix, cnt + 1), by omega, ⟨h2, h3, h4, by simp only; omega, by simp only; omega⟩, fun μ i h1 => ⟨[MObj.lst [.int 2147483647, .int 2147483629, .int 2147483587, .int 2147483579, .int 2147483563]], ?_⟩⟩
    have h1 : μ[i]? = some (.lst [.int own, .int mix, .int cnt]) := h1
    obtain ⟨x0, x1, x2⟩ := vix3 h1
    have y1 : (μ.set i (potO (own, mix, cnt + 1)))[i]? = some (.lst [.int own, .int mix, .int (cnt + 1)]) := List.getElem?_set_self (lt_of_get h1)
    obtain ⟨z0, z1, z2⟩ := vix3 y1
    have hμ1 : μ.set i (.lst [.int own, .int mix, .int (cnt + 1)]) = μ.set i (potO (own, mix, cnt + 1)) := rfl
    generalize μ.set i (potO (own, mix, cnt + 1)) = μ1 at *
    have y2 : (μ1 ++ [MObj.lst [.int 2147483647, .int 2147483629, .int 2147483587, .int 2147483579, .int 2147483563]])[i]? = some (.lst [.int own, .int mix, .int (cnt + 1)]) := by rw [List.getElem?_append_left (lt_of_get y1)]; exact y1
    have y3 : (μ1 ++ [MObj.lst [.int 2147483647, .int 2147483629, .int 2147483587, .int 2147483579, .int 2147483563]])[μ1.length]? = some (.lst [.int 2147483647, .int 2147483629, .int 2147483587, .int 2147483579, .int 2147483563]) := by rw [List.getElem?_append_right (Nat.le_refl _), Nat.sub_self]; rfl
    generalize hμ2 : μ1 ++ [MObj.lst [.int 2147483647, .int 2147483629, .int 2147483587, .int 2147483579, .int 2147483563]] = μ2 at *
    obtain ⟨w0, w1, w2⟩ := vix3 y2
    have e : (((r % u).toNat : Nat) : Int) = r % u := Int.toNat_of_nonneg t1
    rw [e]
    unfold m__law_take b__law_take fnBody
    simp only [List.length_cons, List.length_nil, Nat.reduceAdd, if_true, List.map_cons, List.map_nil, sSeq, sIf, dTest, dApp, dCons, dVar, dC, dNil, List.cons_append, List.nil_append, Nat.reduceSub, List.replicate, List.getElem?_cons_zero, bindOk, x0, x2, gt_i, e0, sAsg, int_i, sNil, Bool.false_eq_true, if_false,
        List.getElem?_cons_succ, gSet, List.set, gItem, add_i, st_l h1 (z := 2) (n := 2) rfl, hμ1]
    rw [lst_k (by simp)]
    simp only [bindOk, hμ2, w2, int_i, mod_p (show (0 : Int) < 5 by omega), ix_l y3 hp, List.set, List.getElem?_cons_zero, List.getElem?_cons_succ, w1, mul_l (show -(2 ^ 64) < (95111 : Int) ∧ (95111 : Int) < 2 ^ 64 by omega)]
    rw [mul_r (show -(2 ^ 64) < cnt + 1 ∧ cnt + 1 < 2 ^ 64 by omega)]
    simp only [dApp, dCons, dVar, dC, dNil, bindOk, add_i, hb, int_i, cube hb1, mod_p (show 0 < p by omega), hq, List.set, List.getElem?_cons_zero, List.getElem?_cons_succ, sRet, mod_p (show (0 : Int) < 10039 by omega), w2, mul_l (show -(2 ^ 64) < (91 : Int) ∧ (91 : Int) < 2 ^ 64 by omega)]
    rw [mul_l (show -(2 ^ 64) < q ∧ q < 2 ^ 64 by omega)]
    simp only [bindOk, div_p (show (0 : Int) < 131 by omega) (by omega), hr, int_i, mod_p hu]
/-- the places that are looked at -/
theorem places_ok {μ : Sto} {ns : List Int} (h : seqAt μ 0 = some (ns.map .int)) (hd : dctAt μ 0 = none) : ∃ m : Nat, 1 ≤ m ∧ m ≤ 4 ∧ m__law_places [.ref 0, .int 4] μ = .ok (.ref μ.length) (μ ++ [.lst ((List.range m).map fun i => PV.int (i : Nat))]) := by
  have go : ∀ n : Int, n ≤ 4 → 1 ≤ n → ∃ m : Nat, 1 ≤ m ∧ m ≤ 4 ∧ (n = (m : Int)) := fun n a b => ⟨n.toNat, by omega, by omega, by omega⟩
  have hmx : ∀ n : Int, (rg1 rgL (.int n) μ) = if rgFit 0 n = true then .ok (.ref μ.length) (μ ++ [.lst (rgP 0 n)]) else .bad := fun n => rfl
  have e1 : ∃ n : Int, n ≤ 4 ∧ 1 ≤ n ∧ m__law_places [.ref 0, .int 4] μ = rg1 rgL (.int n) μ := by
    refine ⟨if (if ((ns.length : Nat) : Int) < 4 then ((ns.length : Nat) : Int) else 4) > 1 then (if ((ns.length : Nat) : Int) < 4 then ((ns.length : Nat) : Int) else 4) else 1, by split <;> (try split) <;> omega, by split <;> omega, ?_⟩
    unfold m__law_places b__law_places fnBody
    simp only [List.length_cons, List.length_nil, Nat.reduceAdd, if_true, List.map_cons, List.map_nil, sRet, dLstRg1, dCons, dApp, dVar, dC, dNil, List.cons_append, List.nil_append, Nat.reduceSub, List.replicate, List.getElem?_cons_zero, List.getElem?_cons_succ, bindOk, len_0 h hd, vMin2, vMax2, List.length_map]
    generalize (if (if ((ns.length : Nat) : Int) < 4 then ((ns.length : Nat) : Int) else 4) > 1 then (if ((ns.length : Nat) : Int) < 4 then ((ns.length : Nat) : Int) else 4) else 1) = n
    rw [hmx]
    by_cases c : rgFit 0 n = true
    · rw [if_pos c]; rfl
    · rw [if_neg c]; rfl
  obtain ⟨n, n1, n2, e⟩ := e1
  obtain ⟨m, m0, m1, rfl⟩ := go n n1 n2
  refine ⟨m, m0, m1, ?_⟩
  rw [e, hmx, if_pos (by simp [rgFit]; omega)]
  simp [rgP]
theorem src_l {μ : Sto} {i : Nat} {ps : List PV} (h : μ[i]? = some (.lst ps)) : srcK (.ref i) μ = some (ps, fun μ' => sameSeq μ' i ps) := by
  simp only [srcK, srcOf, dct_l h, seq_l h]
theorem same_l {μ : Sto} {i : Nat} {ps : List PV} (h : μ[i]? = some (.lst ps)) : sameSeq μ i ps = true := by
  simp only [sameSeq, seq_l h, PV.beqs_self]
end G
namespace G
open PySem PySem.Spec PyProof.Rows L2 DL
noncomputable def restM : DS := (sSeq (sAsg (dApp m__law_made (dCons (dVar 1) dNil)) (gSet 2)) (sSeq (sFor (dEnum (dVar 2)) (gTupA 2 (gCons' (gSet 3) (gCons' (gSet 4) gNil'))) (sSeq (sIf (dOr (dNot (dTru (dApp (vIsi (isiE tb_MetreError)) (dCons (dVar 4) dNil)))) (dNot (dTru (dApp (vIsi (isiE tb_ValueError)) (dCons (dVar 4) dNil))))) (sRet (dC (.bl false))) sNil) (sIf (dOr (dTest (dApp vNeA (dCons (dApp vReprD (dCons (dApp (vXval exL) (dCons (dVar 4) dNil)) dNil)) (dCons (dApp vReprD (dCons (dVar 1) dNil)) dNil)))) (dTest (dApp vNeA (dCons (dApp m__law_marks (dCons (dVar 4) dNil)) (dCons (dLc (dRg1 (dApp vLen (dCons (dVar 2) dNil))) (gSet 6) tYes' (dApp vEqA (dCons (dVar 3) (dCons (dVar 6) dNil))) [6]) dNil))))) (sRet (dC (.bl false))) sNil))) (sSeq (sAsg (dApp (vExc aC_MetreError) (dCons (dVar 1) dNil)) (gSet 5)) (sRet (dAndV (dApp vEqA (dCons (dApp vReprD (dCons (dApp (vXval exL) (dCons (dVar 5) dNil)) dNil)) (dCons (dApp vReprD (dCons (dVar 1) dNil)) dNil))) (dAndV (dApp (vIsi (isiE tb_ValueError)) (dCons (dVar 5) dNil)) (dNotV (dApp vAny (dCons (dApp m__law_marks (dCons (dVar 5) dNil)) dNil)))))))))
noncomputable def oddA : DE := (dApp vLst (dCons (dC .non) (dCons (dC (.bl true)) (dCons (dC (.bl false)) (dCons (dC (.int 0)) (dCons (dC (.int 1)) (dCons (dApp vNeg (dCons (dC (.int 1)) dNil)) (dCons (dC (.int 2)) (dCons (dC (.int 7)) (dCons (dC (.str "")) (dCons (dC (.str "a")) (dCons (dC (.str "-")) (dCons (dC (.str "u")) (dCons (dC (.str "goes")) (dCons (dApp vTup dNil) (dCons (dApp vLst dNil) (dCons dNewD (dCons (dApp vTup (dCons (dC (.int 0)) dNil)) (dCons (dApp vTup (dCons (dApp vTup dNil) dNil)) (dCons (dApp vLst (dCons (dC (.int 0)) dNil)) (dCons (dApp vTup (dCons (dC (.str "a")) dNil)) (dCons (dApp vLst (dCons (dC (.str "a")) dNil)) dNil))))))))))))))))))))))
noncomputable def oddB : DA := (dCons (dVar 0) (dCons (dApp vAdd (dCons (dVar 1) (dCons (dApp vLst (dCons (dDisp [((dC (.str "a")), (dC (.int 1)))]) (dCons (dApp vTup (dCons (dC (.str "goes")) dNil)) (dCons (dApp vTup (dCons (dC (.str "a")) (dCons (dApp vTup (dCons (dC (.str "b")) dNil)) dNil))) (dCons (dC (.str "word")) (dCons (dApp vTup (dCons (dC (.str "|")) dNil)) (dCons (dApp vPow (dCons (dC (.int 10)) (dCons (dC (.int 8)) dNil))) (dCons (dC (.str "-u-u")) (dCons (dApp vTup (dCons (dApp vTup (dCons (dC (.str "a")) dNil)) (dCons (dC (.str "a")) dNil))) dNil))))))))) dNil))) dNil))
noncomputable def valA : DA := (dCons (dVar 0) (dCons (dApp vLst (dCons (dApp m__law_odd (dCons (dVar 0) dNil)) (dCons (dApp vTup (dCons (dApp m__law_odd (dCons (dVar 0) dNil)) (dCons (dC (.int 3)) dNil))) (dCons (dApp vLst (dCons (dApp m__law_odd (dCons (dVar 0) dNil)) dNil)) (dCons (dDisp [((dC (.str "a")), (dApp m__law_odd (dCons (dVar 0) dNil)))]) dNil))))) dNil))
end G
namespace G
open PySem PySem.Spec PyProof.Rows L2 DL
def Ls : List Addr := exL.tail
/-- arguments that leave the store as it is -/
def Same (ds : DA) (η : Env') (qs : List PV) : Prop := ∀ μ, ds η μ = .ok qs μ
theorem same_nil {η : Env'} : Same dNil η [] := fun μ => rfl
theorem same_cons {η : Env'} {d : DE} {ds : DA} {p : PV} {qs : List PV} (h : ∀ μ, d η μ = .ok p μ) (t : Same ds η qs) : Same (dCons d ds) η (p :: qs) := fun μ => by
  unfold dCons
  rw [h μ, bindOk, t μ]
  rfl
theorem lst_same {η : Env'} {ds : DA} {qs : List PV} (h : Same ds η qs) (hl : qs.length ≤ 100) (μ : Sto) : dApp vLst ds η μ = .ok (.ref μ.length) (μ ++ [.lst qs]) := by
  unfold dApp
  rw [h μ, bindOk]
  exact lst_k hl
theorem asg_lst {η : Env'} {ds : DA} {qs : List PV} {i : Nat} (h : Same ds η qs) (hl : qs.length ≤ 100) (μ : Sto) : sAsg (dApp vLst ds) (gSet i) η μ = .ok (.nx, η.set i (some (.ref μ.length))) (μ ++ .lst qs :: []) := by
  unfold sAsg
  rw [lst_same h hl]
  rfl
theorem ext_st {η : Env'} {ds : DA} {l qs : List PV} {i : Nat} {μ more : Sto} (hη : η[i]? = some (some (.ref μ.length))) (h : Same ds η qs) (h1 : l.length ≤ 200) (h2 : qs.length ≤ 100) :
    sExpr (dM isLstP vExtend (dVar i) (dCons (dApp vLst ds) dNil)) η (μ ++ .lst l :: more) = .ok (.nx, η) (μ ++ .lst (l ++ qs) :: (more ++ [.lst qs])) := by
  have s1 : seqAt (μ ++ .lst l :: more) μ.length = some l := seq_l at_mid
  have a0 : (μ ++ MObj.lst l :: more ++ [.lst qs]) = μ ++ MObj.lst l :: (more ++ [.lst qs]) := app_mid _
  have a1 : isLst (μ ++ MObj.lst l :: more ++ [.lst qs]) μ.length = some l := by
    unfold isLst
    rw [a0, at_mid]
  have a2 : isLst (μ ++ MObj.lst l :: more ++ [.lst qs]) (μ ++ MObj.lst l :: more).length = some qs := by
    unfold isLst
    rw [List.getElem?_append_right (Nat.le_refl _), Nat.sub_self]
    rfl
  have v : vExtend [.ref μ.length, .ref (μ ++ MObj.lst l :: more).length] (μ ++ MObj.lst l :: more ++ [.lst qs]) = .ok .non (μ ++ .lst (l ++ qs) :: (more ++ [.lst qs])) := by
    show (match isLst _ _, isLst _ _ with | some ps, some qs => if ps.length + qs.length ≤ sizeLine then Rz.ok PV.non _ else .bad | _, _ => .bad) = _
    rw [a1, a2]
    show (if l.length + qs.length ≤ sizeLine then Rz.ok PV.non _ else .bad) = _
    rw [if_pos (by rw [sizeLine_eq]; omega), a0, set_mid]
  unfold sExpr dM dVar
  rw [hη]
  simp only [bindOk]
  rw [if_pos (show isLstP (.ref μ.length) (μ ++ .lst l :: more) = true by show (seqAt _ _).isSome = true; rw [s1]; rfl)]
  unfold dCons
  rw [lst_same h h2, bindOk]
  show ((Rz.ok [PV.ref _] _).bind _).bind _ = _
  rw [bindOk, v]
  rfl
theorem seq_st {a b : DS} {η η1 : Env'} {μ μ1 : Sto} (h : a η μ = .ok (.nx, η1) μ1) : sSeq a b η μ = b η1 μ1 := by
  unfold sSeq
  rw [h]
  rfl
theorem var_st {η : Env'} {i : Nat} {p : PV} (h : η[i]? = some (some p)) (μ : Sto) : dVar i η μ = .ok p μ := by
  unfold dVar
  rw [h]
theorem isi_st {tb : List (Addr × Bool)} {η : Env'} {i : Nat} {C : Addr} {p : PV} {b : Bool} (hη : η[i]? = some (some (.exc C p))) (h : tb.lookup C = some b) (μ : Sto) : dApp (vIsi (isiE tb)) (dCons (dVar i) dNil) η μ = .ok (.bl b) μ := by
  unfold dApp dCons
  rw [var_st hη]
  show (match ((some (Tg.exc C)).bind (isiE tb)) with | some b => Rz.ok (PV.bl b) μ | none => .bad) = _
  show (match tb.lookup C with | some b => Rz.ok (PV.bl b) μ | none => .bad) = _
  rw [h]
theorem exc_st {η : Env'} {i : Nat} {C : Addr} {p : PV} (hη : η[i]? = some (some p)) (μ : Sto) : dApp (vExc C) (dCons (dVar i) dNil) η μ = .ok (.exc C p) μ := by
  unfold dApp dCons
  rw [var_st hη]
  rfl
theorem tb_MetreError_ok : ∀ C ∈ exL, tb_MetreError.lookup C = some true := by decide
theorem tb_BadTongue_ok : ∀ C ∈ exL, tb_BadTongue.lookup C = some (decide (C = aC_BadTongue)) := by decide
theorem tb_NoWord_ok : ∀ C ∈ exL, tb_NoWord.lookup C = some (decide (C = aC_NoWord)) := by decide
theorem tb_NoMetre_ok : ∀ C ∈ exL, tb_NoMetre.lookup C = some (decide (C = aC_NoMetre)) := by decide
theorem tb_BadMeasure_ok : ∀ C ∈ exL, tb_BadMeasure.lookup C = some (decide (C = aC_BadMeasure)) := by decide
theorem tb_BadVerse_ok : ∀ C ∈ exL, tb_BadVerse.lookup C = some (decide (C = aC_BadVerse)) := by decide
theorem tb_BadRow_ok : ∀ C ∈ exL, tb_BadRow.lookup C = some (decide (C = aC_BadRow)) := by decide
theorem tb_BadNotes_ok : ∀ C ∈ exL, tb_BadNotes.lookup C = some (decide (C = aC_BadNotes)) := by decide
theorem tb_BadNote_ok : ∀ C ∈ exL, tb_BadNote.lookup C = some (decide (C = aC_BadNote)) := by decide
theorem tb_Full_ok : ∀ C ∈ exL, tb_Full.lookup C = some (decide (C = aC_Full)) := by decide
theorem tb_NoNote_ok : ∀ C ∈ exL, tb_NoNote.lookup C = some (decide (C = aC_NoNote)) := by decide
theorem tb_OtherTongue_ok : ∀ C ∈ exL, tb_OtherTongue.lookup C = some (decide (C = aC_OtherTongue)) := by decide
theorem tb_NoMeasure_ok : ∀ C ∈ exL, tb_NoMeasure.lookup C = some (decide (C = aC_NoMeasure)) := by decide
theorem tb_BadClaim_ok : ∀ C ∈ exL, tb_BadClaim.lookup C = some (decide (C = aC_BadClaim)) := by decide
theorem tb_Crowded_ok : ∀ C ∈ exL, tb_Crowded.lookup C = some (decide (C = aC_Crowded)) := by decide
theorem tb_TooMany_ok : ∀ C ∈ exL, tb_TooMany.lookup C = some (decide (C = aC_TooMany)) := by decide
theorem tb_NoPattern_ok : ∀ C ∈ exL, tb_NoPattern.lookup C = some (decide (C = aC_NoPattern)) := by decide
theorem tb_BadNumber_ok : ∀ C ∈ exL, tb_BadNumber.lookup C = some (decide (C = aC_BadNumber)) := by decide
theorem tb_BadOffers_ok : ∀ C ∈ exL, tb_BadOffers.lookup C = some (decide (C = aC_BadOffers)) := by decide
theorem tb_BadWishes_ok : ∀ C ∈ exL, tb_BadWishes.lookup C = some (decide (C = aC_BadWishes)) := by decide
theorem tb_Contrary_ok : ∀ C ∈ exL, tb_Contrary.lookup C = some (decide (C = aC_Contrary)) := by decide
theorem tb_NothingToUndo_ok : ∀ C ∈ exL, tb_NothingToUndo.lookup C = some (decide (C = aC_NothingToUndo)) := by decide
theorem tb_NothingToRedo_ok : ∀ C ∈ exL, tb_NothingToRedo.lookup C = some (decide (C = aC_NothingToRedo)) := by decide
theorem tb_NoTrial_ok : ∀ C ∈ exL, tb_NoTrial.lookup C = some (decide (C = aC_NoTrial)) := by decide
theorem tb_BadJournal_ok : ∀ C ∈ exL, tb_BadJournal.lookup C = some (decide (C = aC_BadJournal)) := by decide
theorem tb_BadLine_ok : ∀ C ∈ exL, tb_BadLine.lookup C = some (decide (C = aC_BadLine)) := by decide
theorem tb_ValueError_ok : ∀ C ∈ exL, tb_ValueError.lookup C = some true := by decide
theorem marks_ok {C : Addr} (hC : C ∈ exL) (p : PV) (μ : Sto) : ∃ more, m__law_marks [.exc C p] μ = .ok (.ref μ.length) (μ ++ .lst (Ls.map fun D => PV.bl (decide (C = D))) :: more) := by
  unfold m__law_marks b__law_marks fnBody
  rw [if_pos (show [PV.exc C p].length = 1 from rfl)]
  rw [show (List.map some [PV.exc C p] ++ List.replicate (2 - 1) none : Env') = [some (.exc C p), none] from rfl]
  rw [seq_st (asg_lst (same_cons (isi_st (i := 0) rfl (tb_BadTongue_ok C hC)) (same_cons (isi_st (i := 0) rfl (tb_NoWord_ok C hC)) (same_cons (isi_st (i := 0) rfl (tb_NoMetre_ok C hC)) same_nil))) (by simp) μ)]
  rw [seq_st (ext_st (i := 1) rfl (same_cons (isi_st (i := 0) rfl (tb_BadMeasure_ok C hC)) (same_cons (isi_st (i := 0) rfl (tb_BadVerse_ok C hC)) (same_cons (isi_st (i := 0) rfl (tb_BadRow_ok C hC)) same_nil))) (by simp) (by simp))]
  rw [seq_st (ext_st (i := 1) rfl (same_cons (isi_st (i := 0) rfl (tb_BadNotes_ok C hC)) (same_cons (isi_st (i := 0) rfl (tb_BadNote_ok C hC)) (same_cons (isi_st (i := 0) rfl (tb_Full_ok C hC)) same_nil))) (by simp) (by simp))]
  rw [seq_st (ext_st (i := 1) rfl (same_cons (isi_st (i := 0) rfl (tb_NoNote_ok C hC)) (same_cons (isi_st (i := 0) rfl (tb_OtherTongue_ok C hC)) (same_cons (isi_st (i := 0) rfl (tb_NoMeasure_ok C hC)) same_nil))) (by simp) (by simp))]
  rw [seq_st (ext_st (i := 1) rfl (same_cons (isi_st (i := 0) rfl (tb_BadClaim_ok C hC)) (same_cons (isi_st (i := 0) rfl (tb_Crowded_ok C hC)) (same_cons (isi_st (i := 0) rfl (tb_TooMany_ok C hC)) same_nil))) (by simp) (by simp))]
  rw [seq_st (ext_st (i := 1) rfl (same_cons (isi_st (i := 0) rfl (tb_NoPattern_ok C hC)) (same_cons (isi_st (i := 0) rfl (tb_BadNumber_ok C hC)) (same_cons (isi_st (i := 0) rfl (tb_BadOffers_ok C hC)) same_nil))) (by simp) (by simp))]
  rw [seq_st (ext_st (i := 1) rfl (same_cons (isi_st (i := 0) rfl (tb_BadWishes_ok C hC)) (same_cons (isi_st (i := 0) rfl (tb_Contrary_ok C hC)) (same_cons (isi_st (i := 0) rfl (tb_NothingToUndo_ok C hC)) same_nil))) (by simp) (by simp))]
  rw [seq_st (ext_st (i := 1) rfl (same_cons (isi_st (i := 0) rfl (tb_NothingToRedo_ok C hC)) (same_cons (isi_st (i := 0) rfl (tb_NoTrial_ok C hC)) (same_cons (isi_st (i := 0) rfl (tb_BadJournal_ok C hC)) same_nil))) (by simp) (by simp))]
  rw [seq_st (ext_st (i := 1) rfl (same_cons (isi_st (i := 0) rfl (tb_BadLine_ok C hC)) same_nil) (by simp) (by simp))]
  exact ⟨_, rfl⟩
theorem made_ok (p : PV) (μ : Sto) : ∃ more, m__law_made [p] μ = .ok (.ref μ.length) (μ ++ .lst (Ls.map fun D => PV.exc D p) :: more) := by
  unfold m__law_made b__law_made fnBody
  rw [if_pos (show [p].length = 1 from rfl)]
  rw [show (List.map some [p] ++ List.replicate (2 - 1) none : Env') = [some p, none] from rfl]
  rw [seq_st (asg_lst (same_cons (exc_st (i := 0) rfl) (same_cons (exc_st (i := 0) rfl) (same_cons (exc_st (i := 0) rfl) (same_cons (exc_st (i := 0) rfl) (same_cons (exc_st (i := 0) rfl) same_nil))))) (by simp) μ)]
  rw [seq_st (ext_st (i := 1) rfl (same_cons (exc_st (i := 0) rfl) (same_cons (exc_st (i := 0) rfl) (same_cons (exc_st (i := 0) rfl) (same_cons (exc_st (i := 0) rfl) (same_cons (exc_st (i := 0) rfl) same_nil))))) (by simp) (by simp))]
  rw [seq_st (ext_st (i := 1) rfl (same_cons (exc_st (i := 0) rfl) (same_cons (exc_st (i := 0) rfl) (same_cons (exc_st (i := 0) rfl) (same_cons (exc_st (i := 0) rfl) (same_cons (exc_st (i := 0) rfl) same_nil))))) (by simp) (by simp))]
  rw [seq_st (ext_st (i := 1) rfl (same_cons (exc_st (i := 0) rfl) (same_cons (exc_st (i := 0) rfl) (same_cons (exc_st (i := 0) rfl) (same_cons (exc_st (i := 0) rfl) (same_cons (exc_st (i := 0) rfl) same_nil))))) (by simp) (by simp))]
  rw [seq_st (ext_st (i := 1) rfl (same_cons (exc_st (i := 0) rfl) (same_cons (exc_st (i := 0) rfl) (same_cons (exc_st (i := 0) rfl) (same_cons (exc_st (i := 0) rfl) (same_cons (exc_st (i := 0) rfl) same_nil))))) (by simp) (by simp))]
  exact ⟨_, rfl⟩
end G
namespace G
open PySem PySem.Spec PyProof.Rows L2 DL
noncomputable def bodyM : DS := (sSeq (sIf (dOr (dNot (dTru (dApp (vIsi (isiE tb_MetreError)) (dCons (dVar 4) dNil)))) (dNot (dTru (dApp (vIsi (isiE tb_ValueError)) (dCons (dVar 4) dNil))))) (sRet (dC (.bl false))) sNil) (sIf (dOr (dTest (dApp vNeA (dCons (dApp vReprD (dCons (dApp (vXval exL) (dCons (dVar 4) dNil)) dNil)) (dCons (dApp vReprD (dCons (dVar 1) dNil)) dNil)))) (dTest (dApp vNeA (dCons (dApp m__law_marks (dCons (dVar 4) dNil)) (dCons (dLc (dRg1 (dApp vLen (dCons (dVar 2) dNil))) (gSet 6) tYes' (dApp vEqA (dCons (dVar 3) (dCons (dVar 6) dNil))) [6]) dNil))))) (sRet (dC (.bl false))) sNil))
noncomputable def ne1 : DE := (dApp vNeA (dCons (dApp vReprD (dCons (dApp (vXval exL) (dCons (dVar 4) dNil)) dNil)) (dCons (dApp vReprD (dCons (dVar 1) dNil)) dNil)))
noncomputable def ne2 : DE := (dApp vNeA (dCons (dApp m__law_marks (dCons (dVar 4) dNil)) (dCons (dLc (dRg1 (dApp vLen (dCons (dVar 2) dNil))) (gSet 6) tYes' (dApp vEqA (dCons (dVar 3) (dCons (dVar 6) dNil))) [6]) dNil)))
noncomputable def lcE : DE := (dLc (dRg1 (dApp vLen (dCons (dVar 2) dNil))) (gSet 6) tYes' (dApp vEqA (dCons (dVar 3) (dCons (dVar 6) dNil))) [6])
noncomputable def finE : DE := (dAndV (dApp vEqA (dCons (dApp vReprD (dCons (dApp (vXval exL) (dCons (dVar 5) dNil)) dNil)) (dCons (dApp vReprD (dCons (dVar 1) dNil)) dNil))) (dAndV (dApp (vIsi (isiE tb_ValueError)) (dCons (dVar 5) dNil)) (dNotV (dApp vAny (dCons (dApp m__law_marks (dCons (dVar 5) dNil)) dNil)))))
theorem lay_b : ∀ l : List Bool, PyData.canLayAll0 (l.map PyData.bool) = true
  | [] => rfl
  | b :: r => by simp [PyData.canLayAll0, PyData.canLay0, lay_b r]
theorem depth_b : ∀ l : List Bool, PyData.depthAll (l.map PyData.bool) ≤ 1
  | [] => by simp [PyData.depthAll]
  | b :: r => by
    have := depth_b r
    simp [PyData.depthAll, PyData.depth]
    try omega
theorem shaped_b (l : List Bool) : SeqAt.shaped (.list (l.map PyData.bool)) = true := by
  unfold SeqAt.shaped
  have a1 := lay_b l
  have a2 := depth_b l
  simp [PyData.canLay0, PyData.depth, a1]
  omega
theorem eqv_b : ∀ l : List Bool, PyData.eqvAll (l.map PyData.bool) (l.map PyData.bool) = true
  | [] => by simp [PyData.eqvAll]
  | b :: r => by
    have := eqv_b r
    simp [PyData.eqvAll, PyData.eqv, this]
theorem pdat_bl {μ : Sto} {i : Nat} {l : List Bool} (h : μ[i]? = some (.lst (l.map PV.bl))) : pdat μ 12 (.ref i) = some (.list (l.map PyData.bool)) := by
  show (match seqAt μ i with | some ps => (pdatL (pdat μ 11) ps).map PyData.list | none => none) = _
  rw [seq_l h]
  show (pdatL (pdat μ 11) (l.map PV.bl)).map PyData.list = _
  rw [pdatL_map (g := fun p => match p with | .bl b => .bool b | _ => .none) (fun p hp => by
    obtain ⟨b, _, rfl⟩ := List.mem_map.mp hp
    rfl), List.map_map]
  rfl
theorem ne_bl {μ : Sto} {i j : Nat} {l : List Bool} (hi : μ[i]? = some (.lst (l.map PV.bl))) (hj : μ[j]? = some (.lst (l.map PV.bl))) : vNeA [.ref i, .ref j] μ = .ok (.bl false) μ := by
  show (match dEmp μ (.ref i) (.ref j) with | some b => Rz.ok (PV.bl (!b)) μ | none => vNe [.ref i, .ref j] μ) = _
  rw [emp_ll hi hj]
  show (match pdat μ 12 (.ref i), pdat μ 12 (.ref j) with | some d, some e => if (SeqAt.shaped d && SeqAt.shaped e) = true then Rz.ok (PV.bl (!PyData.eqv d e)) μ else .bad | _, _ => .bad) = _
  rw [pdat_bl hi, pdat_bl hj]
  have e : PyData.eqv (.list (l.map PyData.bool)) (.list (l.map PyData.bool)) = true := by
    simp [PyData.eqv, eqv_b]
  simp only [shaped_b, Bool.and_self, if_true, e]
  rfl
/-- the value can be shown, whatever is made behind the store -/
def Shows (S : Sto) (p : PV) : Prop := ∀ more, ∃ z, okS z = true ∧ vReprD [p] (S ++ more) = .ok (.str z) (S ++ more)
theorem str_ne {z : PySem.Str} (h : okS z = true) (μ : Sto) : vNeA [.str z, .str z] μ = .ok (.bl false) μ := by
  rw [← vNeF_eq]
  show (if (okS z && okS z) = true then Rz.ok (PV.bl (!eqS z z)) μ else .bad) = _
  rw [h, if_pos (show (true && true) = true from rfl), show eqS z z = true from eqS_iff.mpr rfl]
  rfl
theorem str_eq {z : PySem.Str} (h : okS z = true) (μ : Sto) : vEqA [.str z, .str z] μ = .ok (.bl true) μ := by
  rw [← vEqF_eq]
  show (if (okS z && okS z) = true then Rz.ok (PV.bl (eqS z z)) μ else .bad) = _
  rw [h, if_pos (show (true && true) = true from rfl), show eqS z z = true from eqS_iff.mpr rfl]
theorem ap1 {d : DE} {f : VF} {η : Env'} {μ μ1 : Sto} {p : PV} {r : Rz PV} (h : d η μ = .ok p μ1) (e : f [p] μ1 = r) : dApp f (dCons d dNil) η μ = r := by
  unfold dApp dCons
  rw [h]
  exact e
theorem ap2 {d d2 : DE} {f : VF} {η : Env'} {μ μ1 μ2 : Sto} {p q : PV} {r : Rz PV} (h : d η μ = .ok p μ1) (h2 : d2 η μ1 = .ok q μ2) (e : f [p, q] μ2 = r) : dApp f (dCons d (dCons d2 dNil)) η μ = r := by
  unfold dApp dCons
  rw [h, bindOk]
  show (((d2 η μ1).bind _).bind _).bind f = r
  rw [h2]
  exact e
theorem two_rep {S more : Sto} {p : PV} {C : Addr} {η : Env'} {i : Nat} {F : VF} {b : PV} (R : Shows S p) (hC : C ∈ exL) (h1 : η[i]? = some (some (.exc C p))) (h2 : η[1]? = some (some p)) (hF : ∀ z, okS z = true → ∀ μ, F [.str z, .str z] μ = .ok b μ) :
    dApp F (dCons (dApp vReprD (dCons (dApp (vXval exL) (dCons (dVar i) dNil)) dNil)) (dCons (dApp vReprD (dCons (dVar 1) dNil)) dNil)) η (S ++ more) = .ok b (S ++ more) := by
  obtain ⟨z, hz, e⟩ := R more
  exact ap2 (ap1 (ap1 (var_st h1 _) (if_pos hC)) e) (ap1 (var_st h2 _) e) (hF z hz _)
theorem lists_eq : ∀ k, k < 25 → (Ls.map fun D => decide (Ls.getD k 0 = D)) = (List.range 25).map fun j => decide (k = j) := by decide
theorem ls_in : ∀ C ∈ Ls, C ∈ exL := fun C h => List.mem_of_mem_tail h
abbrev boolsK (k : Nat) : List Bool := (List.range 25).map fun j => decide (k = j)
theorem lc_ok {x0 x1 x2 x4 x5 : Option PV} {k : Nat} (μ : Sto) : ∃ l, lcGo (fun _ => true) (gSet 6) tYes' (elOne (dApp vEqA (dCons (dVar 3) (dCons (dVar 6) dNil)))) [x0, x1, x2, some (.int (k : Nat)), x4, x5, none] (rgP 0 25) [] μ = .ok ((boolsK k).map PV.bl) (μ ++ l) := by
  obtain ⟨l, _, lc⟩ := lc_more (gd := fun _ => true) (g := gSet 6) (tt := tYes') (d := dApp vEqA (dCons (dVar 3) (dCons (dVar 6) dNil))) (η := [x0, x1, x2, some (.int (k : Nat)), x4, x5, none]) (I := fun _ => True) (c := fun _ => true) (f := fun q => match q with | .int j => .bl (decide ((k : Int) = j)) | _ => .non)
    (e := fun q => [x0, x1, x2, some (.int (k : Nat)), x4, x5, some q]) (fun _ _ => rfl) (rgP 0 25) [] μ trivial (by simp [rgP]) (fun q hq μ hI => ⟨rfl, [], trivial, by rw [List.append_nil]; rfl, fun _ => by
      rw [List.append_nil]
      unfold rgP at hq
      obtain ⟨j, _, rfl⟩ := List.mem_map.mp hq
      exact ap2 (var_st rfl _) (var_st rfl _) eq_i⟩)
  have fl : ((rgP 0 25).filter fun _ => true).map (fun q : PV => match q with | .int j => PV.bl (decide ((k : Int) = j)) | _ => PV.non) = (boolsK k).map PV.bl := by
    rw [List.filter_eq_self.mpr (fun _ _ => rfl)]
    unfold rgP boolsK
    rw [List.map_map, List.map_map]
    refine List.map_congr_left fun j _ => ?_
    show PV.bl (decide ((k : Int) = 0 + (j : Nat))) = PV.bl (decide (k = j))
    rw [show (decide ((k : Int) = 0 + (j : Nat))) = decide (k = j) from decide_eq_decide.mpr (by omega)]
  rw [List.nil_append, fl] at lc
  exact ⟨l, lc⟩
theorem lcE_ok {η : Env'} {k j : Nat} {E : List PV} {μ : Sto} (lenE : E.length = 25) (hj : μ[j]? = some (.lst E)) (h2 : η[2]? = some (some (.ref j))) (h3 : η[3]? = some (some (.int (k : Nat)))) (hl : η.length = 7) :
    ∃ l, lcE η μ = .ok (.ref (μ ++ l).length) (μ ++ l ++ [.lst ((boolsK k).map PV.bl)]) := by
  obtain ⟨x0, x1, x2, x3, x4, x5, x6, rfl⟩ : ∃ x0 x1 x2 x3 x4 x5 x6, η = [x0, x1, x2, x3, x4, x5, x6] := by
    match η, hl with
    | [a, b, c, d, e, f, g], _ => exact ⟨a, b, c, d, e, f, g, rfl⟩
  obtain rfl : x3 = some (.int (k : Nat)) := by simpa using h3
  obtain ⟨l, lc⟩ := lc_ok (x0 := x0) (x1 := x1) (x2 := x2) (x4 := x4) (x5 := x5) (k := k) μ
  refine ⟨l, ?_⟩
  have len : dApp vLen (dCons (dVar 2) dNil) [x0, x1, x2, some (.int (k : Nat)), x4, x5, x6] μ = .ok (.int 25) μ := by
    refine ap1 (var_st h2 _) ?_
    rw [len_l hj, lenE]
    rfl
  unfold lcE dLc dRg1
  rw [len, bindOk, show rg1 rgI (.int 25) μ = .ok (rgP 0 25, fun _ => true) μ from (by unfold rg1; exact if_pos (show rgFit 0 25 = true by decide)), bindOk]
  rw [show wipeE [x0, x1, x2, some (PV.int (k : Nat)), x4, x5, x6] [6] = [x0, x1, x2, some (PV.int (k : Nat)), x4, x5, none] from rfl]
  dsimp only
  rw [lc]
  rfl
theorem ne2_ok {S more : Sto} {p : PV} {C : Addr} {k : Nat} {η : Env'} (hk : k < 25) (hC : Ls.getD k 0 = C) (hm : C ∈ exL) (h2 : η[2]? = some (some (.ref S.length))) (h3 : η[3]? = some (some (.int (k : Nat)))) (h4 : η[4]? = some (some (.exc C p))) (hl : η.length = 7) {E : List PV} (lenE : E.length = 25) :
    ∃ l, ne2 η (S ++ .lst E :: more) = .ok (.bl false) (S ++ .lst E :: (more ++ l)) := by
  obtain ⟨g, em⟩ := marks_ok hm p (S ++ .lst E :: more)
  generalize hM : (Ls.map fun D => PV.bl (decide (C = D))) = M at *
  have a1 : (S ++ MObj.lst E :: more ++ MObj.lst M :: g) = S ++ .lst E :: (more ++ MObj.lst M :: g) := by simp
  obtain ⟨l, dl⟩ := lcE_ok (η := η) (k := k) (μ := S ++ MObj.lst E :: more ++ MObj.lst M :: g) lenE (by rw [a1]; exact at_mid) h2 h3 hl
  refine ⟨MObj.lst M :: g ++ l ++ [.lst ((boolsK k).map PV.bl)], ?_⟩
  have e9 : (S ++ MObj.lst E :: (more ++ (MObj.lst M :: g ++ l ++ [.lst ((boolsK k).map PV.bl)]))) = S ++ MObj.lst E :: more ++ MObj.lst M :: g ++ l ++ [.lst ((boolsK k).map PV.bl)] := by simp
  rw [e9]
  have hMb : M = (boolsK k).map PV.bl := by
    rw [← hM, ← hC]
    show _ = ((List.range 25).map fun j => decide (k = j)).map PV.bl
    rw [← lists_eq k hk, List.map_map]
    rfl
  unfold ne2
  refine ap2 (ap1 (var_st (i := 4) h4 _) em) dl ?_
  refine ne_bl (l := boolsK k) ?_ ?_
  · have q : (S ++ MObj.lst E :: more ++ MObj.lst M :: g ++ l ++ [.lst ((boolsK k).map PV.bl)]) = (S ++ MObj.lst E :: more) ++ MObj.lst M :: (g ++ l ++ [.lst ((boolsK k).map PV.bl)]) := by simp
    rw [q, at_mid, hMb]
  · rw [List.getElem?_append_right (Nat.le_refl _), Nat.sub_self]
    rfl
theorem body_ok {S more : Sto} {p : PV} {C : Addr} {k : Nat} {η : Env'} (R : Shows S p) (hk : k < 25) (hC : Ls.getD k 0 = C) (hm : C ∈ exL) (h1 : η[1]? = some (some p)) (h2 : η[2]? = some (some (.ref S.length))) (h3 : η[3]? = some (some (.int (k : Nat)))) (h4 : η[4]? = some (some (.exc C p))) (hl : η.length = 7) {E : List PV} (lenE : E.length = 25) :
    ∃ l, bodyM η (S ++ .lst E :: more) = .ok (.nx, η) (S ++ .lst E :: (more ++ l)) := by
  obtain ⟨l, e2⟩ := ne2_ok (S := S) (more := more) (p := p) hk hC hm h2 h3 h4 hl lenE
  have e1 : ne1 η (S ++ .lst E :: more) = .ok (.bl false) (S ++ .lst E :: more) := two_rep (i := 4) R hm h4 h1 (fun z hz μ => str_ne hz μ)
  refine ⟨l, ?_⟩
  have i1 := isi_st (i := 4) h4 (tb_MetreError_ok C hm) (S ++ .lst E :: more)
  have i2 := isi_st (i := 4) h4 (tb_ValueError_ok C hm) (S ++ .lst E :: more)
  generalize S ++ MObj.lst E :: more = μ at *
  generalize S ++ MObj.lst E :: (more ++ l) = μ2 at *
  have c1 : dOr (dNot (dTru (dApp (vIsi (isiE tb_MetreError)) (dCons (dVar 4) dNil)))) (dNot (dTru (dApp (vIsi (isiE tb_ValueError)) (dCons (dVar 4) dNil)))) η μ = .ok false μ := by
    unfold dOr dNot dTru
    simp only [i1, i2, bindOk, truth]
    rfl
  have c2 : dOr (dTest ne1) (dTest ne2) η μ = .ok false μ2 := by
    unfold dOr dTest
    simp only [e1, e2, bindOk]
    rfl
  show sSeq (sIf _ (sRet (dC (.bl false))) sNil) (sIf (dOr (dTest ne1) (dTest ne2)) (sRet (dC (.bl false))) sNil) η μ = _
  rw [seq_st (η1 := η) (μ1 := μ) (by
    unfold sIf
    rw [c1]
    rfl)]
  unfold sIf
  rw [c2]
  rfl
end G
namespace G
open PySem PySem.Spec PyProof.Rows L2 DL
theorem loop_ok {S : Sto} {p : PV} {x0 x5 x6 : Option PV} {E : List PV} (R : Shows S p) (lenE : E.length = 25) : ∀ (l : List Addr) (k : Nat) (x3 x4 : Option PV) (more : Sto), k + l.length = 25 → (∀ i, i < l.length → Ls.getD (k + i) 0 = l.getD i 0) → (∀ C ∈ l, C ∈ exL) →
    ∃ y3 y4 m, forGo (fun μ' => sameSeq μ' S.length E) (gTupA 2 (gCons' (gSet 3) (gCons' (gSet 4) gNil'))) bodyM ((enum2 (l.map fun D => PV.exc D p) k).map PV.tup) [x0, some p, some (.ref S.length), x3, x4, x5, x6] (S ++ .lst E :: more) =
      .ok (.nx, [x0, some p, some (.ref S.length), y3, y4, x5, x6]) (S ++ .lst E :: m)
  | [], k, x3, x4, more, _, _, _ => by
    refine ⟨x3, x4, more, ?_⟩
    simp only [List.map_nil, enum2, forGo]
    rw [if_pos (same_ls at_mid)]
  | C :: r, k, x3, x4, more, hk, hi, hm => by
    have hk' : k < 25 := by simp at hk; omega
    have hC : Ls.getD k 0 = C := by
      have := hi 0 (by simp)
      simpa using this
    obtain ⟨l, eb⟩ := body_ok (S := S) (more := more) (p := p) (C := C) (k := k) (η := [x0, some p, some (.ref S.length), some (.int (k : Nat)), some (.exc C p), x5, x6]) R hk' hC (hm C (by simp)) rfl rfl rfl rfl rfl lenE
    obtain ⟨y3, y4, m, el⟩ := loop_ok R lenE r (k + 1) (some (.int (k : Nat))) (some (.exc C p)) (more ++ l) (by simp at hk ⊢; omega) (fun i h => by
      have := hi (i + 1) (by simp; omega)
      rw [show k + 1 + i = k + (i + 1) by omega]
      simpa using this) (fun D hD => hm D (by simp [hD]))
    refine ⟨y3, y4, m, ?_⟩
    rw [← el, List.map_cons]
    show forGo _ _ _ (PV.tup [.int (k : Nat), .exc C p] :: ((enum2 (r.map fun D => PV.exc D p) (k + 1)).map PV.tup)) _ _ = _
    rw [forGo, if_pos (same_ls at_mid)]
    show ((Rz.ok [x0, some p, some (PV.ref S.length), some (.int (k : Nat)), some (.exc C p), x5, x6] (S ++ MObj.lst E :: more)).bind _) = _
    rw [bindOk, eb, bindOk]
theorem made_len (p : PV) : (Ls.map fun D => PV.exc D p).length = 25 := by
  rw [List.length_map]
  rfl
theorem any_no : boolsL (Ls.map fun D => PV.bl (decide (aC_MetreError = D))) = some (Ls.map fun D => decide (aC_MetreError = D)) := by decide
theorem any_no2 : (Ls.map fun D => decide (aC_MetreError = D)).any id = false := by decide
theorem fin_ok {S more : Sto} {p : PV} {η : Env'} (R : Shows S p) (h1 : η[1]? = some (some p)) (h5 : η[5]? = some (some (.exc aC_MetreError p))) : ∃ m, finE η (S ++ more) = .ok (.bl true) (S ++ m) := by
  have hm : aC_MetreError ∈ exL := by decide
  have e1 := two_rep (more := more) (i := 5) (F := vEqA) (b := .bl true) R hm h5 h1 (fun z hz μ => str_eq hz μ)
  have i2 := isi_st (i := 5) h5 (tb_ValueError_ok _ hm) (S ++ more)
  obtain ⟨g, em⟩ := marks_ok hm p (S ++ more)
  have an : dApp vAny (dCons (dApp m__law_marks (dCons (dVar 5) dNil)) dNil) η (S ++ more) = .ok (.bl false) (S ++ more ++ MObj.lst (Ls.map fun D => PV.bl (decide (aC_MetreError = D))) :: g) := by
    refine ap1 (ap1 (var_st h5 _) em) ?_
    unfold vAny v1L
    simp only [seq_l at_mid, Option.bind_some, any_no, any_no2]
  refine ⟨more ++ MObj.lst (Ls.map fun D => PV.bl (decide (aC_MetreError = D))) :: g, ?_⟩
  rw [← List.append_assoc]
  generalize S ++ more ++ MObj.lst (Ls.map fun D => PV.bl (decide (aC_MetreError = D))) :: g = μ2 at *
  generalize S ++ more = μ at *
  have n1 : dNotV (dApp vAny (dCons (dApp m__law_marks (dCons (dVar 5) dNil)) dNil)) η μ = .ok (.bl true) μ2 := by
    unfold dNotV
    rw [an]
    rfl
  have n2 : dAndV (dApp (vIsi (isiE tb_ValueError)) (dCons (dVar 5) dNil)) (dNotV (dApp vAny (dCons (dApp m__law_marks (dCons (dVar 5) dNil)) dNil))) η μ = .ok (.bl true) μ2 := by
    unfold dAndV
    rw [i2]
    exact n1
  unfold finE dAndV
  rw [e1]
  exact n2
theorem rest_ok {S : Sto} {p : PV} {x0 : Option PV} (R : Shows S p) : ∃ m η', restM [x0, some p, none, none, none, none, none] S = .ok (.rt (.bl true), η') (S ++ m) := by
  obtain ⟨g, em⟩ := made_ok p S
  have lenE := made_len p
  obtain ⟨y3, y4, m, el⟩ := loop_ok (x0 := x0) (x5 := none) (x6 := none) R lenE Ls 0 none none g (by rfl) (fun i h => by rw [Nat.zero_add]) ls_in
  obtain ⟨m2, ef⟩ := fin_ok (more := MObj.lst (Ls.map fun D => PV.exc D p) :: m) (η := [x0, some p, some (.ref S.length), y3, y4, some (.exc aC_MetreError p), none]) R rfl rfl
  refine ⟨m2, [x0, some p, some (.ref S.length), y3, y4, some (.exc aC_MetreError p), none], ?_⟩
  generalize (Ls.map fun D => PV.exc D p) = E at *
  have s1 : sAsg (dApp m__law_made (dCons (dVar 1) dNil)) (gSet 2) [x0, some p, none, none, none, none, none] S = .ok (.nx, [x0, some p, some (.ref S.length), none, none, none, none]) (S ++ .lst E :: g) := by
    unfold sAsg
    rw [ap1 (var_st (i := 1) rfl _) em]
    rfl
  have d1 : dEnum (dVar 2) [x0, some p, some (.ref S.length), none, none, none, none] (S ++ .lst E :: g) = .ok ((enum2 E 0).map PV.tup, fun μ' => sameSeq μ' S.length E) (S ++ .lst E :: g) := by
    unfold dEnum
    rw [var_st (i := 2) rfl, bindOk]
    simp only [so_ll at_mid]
  have s2 : sFor (dEnum (dVar 2)) (gTupA 2 (gCons' (gSet 3) (gCons' (gSet 4) gNil'))) bodyM [x0, some p, some (.ref S.length), none, none, none, none] (S ++ .lst E :: g) = .ok (.nx, [x0, some p, some (.ref S.length), y3, y4, none, none]) (S ++ .lst E :: m) := by
    unfold sFor
    rw [d1, bindOk]
    exact el
  have s3 : sAsg (dApp (vExc aC_MetreError) (dCons (dVar 1) dNil)) (gSet 5) [x0, some p, some (.ref S.length), y3, y4, none, none] (S ++ .lst E :: m) = .ok (.nx, [x0, some p, some (.ref S.length), y3, y4, some (.exc aC_MetreError p), none]) (S ++ .lst E :: m) := by
    unfold sAsg
    rw [exc_st (i := 1) rfl]
    rfl
  show sSeq _ (sSeq _ (sSeq _ (sRet finE))) _ _ = _
  rw [seq_st s1]
  show sSeq (sFor (dEnum (dVar 2)) (gTupA 2 (gCons' (gSet 3) (gCons' (gSet 4) gNil'))) bodyM) (sSeq _ (sRet finE)) _ _ = _
  rw [seq_st s2, seq_st s3]
  unfold sRet
  rw [ef]
  rfl
end G
namespace G
open PySem PySem.Spec PyProof.Rows L2 DL
theorem of_ok {p : Pot} {c : Int} {its : List PV} (hp : PotOk p c) (hc : c ≤ 1000) (h0 : 0 < its.length) (h1 : its.length ≤ 1000) : ∃ (d : Nat) (p' : Pot) (hd : d < its.length), PotOk p' (c + 1) ∧ ∀ (μ : Sto) (i q : Nat), μ[i]? = some (potO p) → μ[q]? = some (.lst its) → q ≠ i → ∃ more, m__law_of [.ref i, .ref q] μ = .ok its[d] (μ.set i (potO p') ++ more) := by
  obtain ⟨d, p', hd, hp', sp⟩ := take_spec p c (its.length : Int) hp hc (by omega) (by omega)
  have hd' : d < its.length := by omega
  refine ⟨d, p', hd', hp', fun μ i q hi hq hn => ?_⟩
  obtain ⟨more, e⟩ := sp μ i hi
  refine ⟨more, ?_⟩
  have hq' : (μ.set i (potO p') ++ more)[q]? = some (.lst its) := by
    rw [List.getElem?_append_left (by rw [List.length_set]; exact lt_of_get hq), List.getElem?_set_ne (Ne.symm hn)]
    exact hq
  have hz : L2.atI its (d : Int) = some its[d] := by simp [L2.atI, L2.ixN, hd']
  have e2 : dApp vIx (dCons (dVar 1) (dCons (dApp m__law_take (dCons (dVar 0) (dCons (dApp vLen (dCons (dVar 1) dNil)) dNil))) dNil)) [some (.ref i), some (.ref q)] μ = .ok its[d] (μ.set i (potO p') ++ more) := ap2 (var_st rfl _) (ap2 (var_st rfl _) (ap1 (var_st rfl _) (len_l hq)) e) (ix_l hq' hz)
  unfold m__law_of b__law_of fnBody
  rw [if_pos (show [PV.ref i, PV.ref q].length = 2 from rfl)]
  show ((sRet _ [some (.ref i), some (.ref q)] μ).bind _) = _
  unfold sRet
  rw [e2]
  rfl
/-- a value of any kind, and what it holds -/
def bareS : List PV := [.non, .bl true, .bl false, .int 0, .int 1, .int (-1), .int 2, .int 7, .str "", .str "a", .str "-", .str "u", .str "goes", .str "word", .int 100000000, .str "-u-u"]
def bareT : List PV := [.tup [], .tup [.int 0], .tup [.tup []], .tup [.str "a"], .tup [.str "goes"], .tup [.str "a", .tup [.str "b"]], .tup [.str "|"], .tup [.tup [.str "a"], .str "a"]]
def OddV (S : Sto) (v : PV) : Prop := v ∈ bareS ∨ v ∈ bareT ∨ ∃ r, v = .ref r ∧ (S[r]? = some (.lst []) ∨ S[r]? = some (.dct []) ∨ S[r]? = some (.lst [.int 0]) ∨ S[r]? = some (.lst [.str "a"]) ∨ S[r]? = some (.dct [(.str "a", .int 1)]))
theorem odd_keep {S more : Sto} {v : PV} {i : Nat} {p p' : Pot} (h : OddV S v) (hi : S[i]? = some (potO p)) : OddV (S.set i (potO p') ++ more) v := by
  rcases h with h | h | ⟨r, rfl, h⟩
  · exact .inl h
  · exact .inr (.inl h)
  · have key : ∀ o, S[r]? = some o → o ≠ potO p → (S.set i (potO p') ++ more)[r]? = some o := fun o ho hn => by
      have hr : r ≠ i := fun e => by
        subst e
        rw [hi] at ho
        exact hn (Option.some.inj ho).symm
      rw [List.getElem?_append_left (by rw [List.length_set]; exact lt_of_get ho), List.getElem?_set_ne (Ne.symm hr)]
      exact ho
    refine .inr (.inr ⟨r, rfl, ?_⟩)
    rcases h with h | h | h | h | h
    · exact .inl (key _ h (by simp [potO]))
    · exact .inr (.inl (key _ h (by simp [potO])))
    · exact .inr (.inr (.inl (key _ h (by simp [potO]))))
    · exact .inr (.inr (.inr (.inl (key _ h (by simp [potO])))))
    · exact .inr (.inr (.inr (.inr (key _ h (by simp [potO])))))
theorem odd_app {S more : Sto} {v : PV} (h : OddV S v) : OddV (S ++ more) v := by
  rcases h with h | h | ⟨r, rfl, h⟩
  · exact .inl h
  · exact .inr (.inl h)
  · have key : ∀ o, S[r]? = some o → (S ++ more)[r]? = some o := fun o ho => by
      rw [List.getElem?_append_left (lt_of_get ho)]
      exact ho
    refine .inr (.inr ⟨r, rfl, ?_⟩)
    rcases h with h | h | h | h | h
    · exact .inl (key _ h)
    · exact .inr (.inl (key _ h))
    · exact .inr (.inr (.inl (key _ h)))
    · exact .inr (.inr (.inr (.inl (key _ h))))
    · exact .inr (.inr (.inr (.inr (key _ h))))
noncomputable def okRep (w : PyData) : Bool := w.showable && decide (w.depth ≤ 16) && decide (w.shown.length ≤ sizeLine) && okS w.shown
noncomputable def goodB (d : PyData) : Bool := okRep d && okRep (.tuple [d, .int 3]) && okRep (.list [d]) && okRep (.dict [(.str "a", d)])
theorem odd_data {S : Sto} {v : PV} (h : OddV S v) : ∃ d, goodB d = true ∧ ∀ n, pdatD S (n + 3) v = some d := by
  rcases h with h | h | ⟨r, rfl, h⟩
  · simp only [bareS, List.mem_cons, List.not_mem_nil, or_false] at h
    rcases h with rfl | rfl | rfl | rfl | rfl | rfl | rfl | rfl | rfl | rfl | rfl | rfl | rfl | rfl | rfl | rfl
    · exact ⟨.none, by kernel_rfl, fun n => rfl⟩
    · exact ⟨.bool true, by kernel_rfl, fun n => rfl⟩
    · exact ⟨.bool false, by kernel_rfl, fun n => rfl⟩
    · exact ⟨.int 0, by kernel_rfl, fun n => rfl⟩
    · exact ⟨.int 1, by kernel_rfl, fun n => rfl⟩
    · exact ⟨.int (-1), by kernel_rfl, fun n => rfl⟩
    · exact ⟨.int 2, by kernel_rfl, fun n => rfl⟩
    · exact ⟨.int 7, by kernel_rfl, fun n => rfl⟩
    · exact ⟨.str "", by kernel_rfl, fun n => rfl⟩
    · exact ⟨.str "a", by kernel_rfl, fun n => rfl⟩
    · exact ⟨.str "-", by kernel_rfl, fun n => rfl⟩
    · exact ⟨.str "u", by kernel_rfl, fun n => rfl⟩
    · exact ⟨.str "goes", by kernel_rfl, fun n => rfl⟩
    · exact ⟨.str "word", by kernel_rfl, fun n => rfl⟩
    · exact ⟨.int 100000000, by kernel_rfl, fun n => rfl⟩
    · exact ⟨.str "-u-u", by kernel_rfl, fun n => rfl⟩
  · simp only [bareT, List.mem_cons, List.not_mem_nil, or_false] at h
    rcases h with rfl | rfl | rfl | rfl | rfl | rfl | rfl | rfl
    · exact ⟨.tuple [], by kernel_rfl, fun n => rfl⟩
    · exact ⟨.tuple [.int 0], by kernel_rfl, fun n => rfl⟩
    · exact ⟨.tuple [.tuple []], by kernel_rfl, fun n => rfl⟩
    · exact ⟨.tuple [.str "a"], by kernel_rfl, fun n => rfl⟩
    · exact ⟨.tuple [.str "goes"], by kernel_rfl, fun n => rfl⟩
    · exact ⟨.tuple [.str "a", .tuple [.str "b"]], by kernel_rfl, fun n => rfl⟩
    · exact ⟨.tuple [.str "|"], by kernel_rfl, fun n => rfl⟩
    · exact ⟨.tuple [.tuple [.str "a"], .str "a"], by kernel_rfl, fun n => rfl⟩
  · rcases h with h | h | h | h | h
    · exact ⟨.list [], by kernel_rfl, fun n => by simp [pdatD, seq_l h, pdatL]⟩
    · exact ⟨.dict [], by kernel_rfl, fun n => by simp [pdatD, seqAt, dctAt, h, pdatL]⟩
    · exact ⟨.list [.int 0], by kernel_rfl, fun n => by simp [pdatD, seq_l h, pdatL]⟩
    · exact ⟨.list [.str "a"], by kernel_rfl, fun n => by simp [pdatD, seq_l h, pdatL]⟩
    · exact ⟨.dict [(.str "a", .int 1)], by kernel_rfl, fun n => by simp [pdatD, seqAt, dctAt, h, pdatL]⟩
theorem rep_of {S : Sto} {v : PV} {d : PyData} (h : pdatD S 12 v = some d) (g : okRep d = true) : ∃ z, okS z = true ∧ reprV S v = some z := by
  unfold okRep at g
  rw [Bool.and_eq_true] at g
  refine ⟨d.shown, g.2, ?_⟩
  unfold reprV
  rw [h]
  show (if _ then _ else _) = _
  rw [if_pos g.1]
theorem scal {v : PV} (h : v ∈ bareS) (μ : Sto) : ∃ z, okS z = true ∧ vReprD [v] μ = .ok (.str z) μ := by
  simp only [bareS, List.mem_cons, List.not_mem_nil, or_false] at h
  rcases h with rfl | rfl | rfl | rfl | rfl | rfl | rfl | rfl | rfl | rfl | rfl | rfl | rfl | rfl | rfl | rfl
  · exact ⟨Str.ofString "None", by kernel_rfl, rfl⟩
  · exact ⟨Str.ofString "True", by kernel_rfl, rfl⟩
  · exact ⟨Str.ofString "False", by kernel_rfl, rfl⟩
  · exact ⟨(toString (0 : Int) : String), by kernel_rfl, by kernel_rfl⟩
  · exact ⟨(toString (1 : Int) : String), by kernel_rfl, by kernel_rfl⟩
  · exact ⟨(toString ((-1) : Int) : String), by kernel_rfl, by kernel_rfl⟩
  · exact ⟨(toString (2 : Int) : String), by kernel_rfl, by kernel_rfl⟩
  · exact ⟨(toString (7 : Int) : String), by kernel_rfl, by kernel_rfl⟩
  · exact ⟨reprText "", by kernel_rfl, by kernel_rfl⟩
  · exact ⟨reprText "a", by kernel_rfl, by kernel_rfl⟩
  · exact ⟨reprText "-", by kernel_rfl, by kernel_rfl⟩
  · exact ⟨reprText "u", by kernel_rfl, by kernel_rfl⟩
  · exact ⟨reprText "goes", by kernel_rfl, by kernel_rfl⟩
  · exact ⟨reprText "word", by kernel_rfl, by kernel_rfl⟩
  · exact ⟨(toString (100000000 : Int) : String), by kernel_rfl, by kernel_rfl⟩
  · exact ⟨reprText "-u-u", by kernel_rfl, by kernel_rfl⟩
end G
namespace G
open PySem PySem.Spec PyProof.Rows L2 DL
theorem good_1 {d : PyData} (g : goodB d = true) : okRep d = true ∧ okRep (.tuple [d, .int 3]) = true ∧ okRep (.list [d]) = true ∧ okRep (.dict [(.str "a", d)]) = true := by
  unfold goodB at g
  simp only [Bool.and_eq_true] at g
  exact ⟨g.1.1.1, g.1.1.2, g.1.2, g.2⟩
theorem vr_tup {ps : List PV} {S : Sto} {z : PySem.Str} (h : reprV S (.tup ps) = some z) : vReprD [.tup ps] S = .ok (.str z) S := by
  show (match reprV S (.tup ps) with | some z => Rz.ok (PV.str z) S | none => .bad) = _
  rw [h]
theorem vr_ref {i : Nat} {S : Sto} {z : PySem.Str} (h : reprV S (.ref i) = some z) : vReprD [.ref i] S = .ok (.str z) S := by
  show (match reprV S (.ref i) with | some z => Rz.ok (PV.str z) S | none => .bad) = _
  rw [h]
theorem shows1 {S : Sto} {v : PV} (h : OddV S v) : Shows S v := fun more => by
  have h2 := odd_app (more := more) h
  obtain ⟨d, g, e⟩ := odd_data h2
  obtain ⟨z, hz, ez⟩ := rep_of (e 9) (good_1 g).1
  rcases h2 with k | k | ⟨r, rfl, _⟩
  · exact scal k _
  · refine ⟨z, hz, ?_⟩
    simp only [bareT, List.mem_cons, List.not_mem_nil, or_false] at k
    rcases k with rfl | rfl | rfl | rfl | rfl | rfl | rfl | rfl <;> exact vr_tup ez
  · exact ⟨z, hz, vr_ref ez⟩
theorem shows2 {S : Sto} {v : PV} (h : OddV S v) : Shows S (.tup [v, .int 3]) := fun more => by
  obtain ⟨d, g, e⟩ := odd_data (odd_app (more := more) h)
  have e2 : pdatD (S ++ more) 12 (.tup [v, .int 3]) = some (.tuple [d, .int 3]) := by
    show (pdatL (pdatD (S ++ more) 11) [v, .int 3]).map PyData.tuple = _
    unfold pdatL
    rw [e 8]
    rfl
  obtain ⟨z, hz, ez⟩ := rep_of e2 (good_1 g).2.1
  exact ⟨z, hz, vr_tup ez⟩
theorem shows3 {S : Sto} {v : PV} {r : Nat} (h : OddV S v) (hr : S[r]? = some (.lst [v])) : Shows S (.ref r) := fun more => by
  obtain ⟨d, g, e⟩ := odd_data (odd_app (more := more) h)
  have hr2 : (S ++ more)[r]? = some (.lst [v]) := by rw [List.getElem?_append_left (lt_of_get hr)]; exact hr
  have e2 : pdatD (S ++ more) 12 (.ref r) = some (.list [d]) := by
    show (match seqAt (S ++ more) r with | some ps => (pdatL (pdatD (S ++ more) 11) ps).map PyData.list | none => _) = _
    rw [seq_l hr2]
    show (pdatL (pdatD (S ++ more) 11) [v]).map PyData.list = _
    unfold pdatL
    rw [e 8]
    rfl
  obtain ⟨z, hz, ez⟩ := rep_of e2 (good_1 g).2.2.1
  exact ⟨z, hz, vr_ref ez⟩
theorem shows4 {S : Sto} {v : PV} {r : Nat} (h : OddV S v) (hr : S[r]? = some (.dct [(.str "a", v)])) : Shows S (.ref r) := fun more => by
  obtain ⟨d, g, e⟩ := odd_data (odd_app (more := more) h)
  have hr2 : (S ++ more)[r]? = some (.dct [(.str "a", v)]) := by rw [List.getElem?_append_left (lt_of_get hr)]; exact hr
  have e2 : pdatD (S ++ more) 12 (.ref r) = some (.dict [(.str "a", d)]) := by
    have s1 : seqAt (S ++ more) r = none := by unfold seqAt; rw [hr2]
    have s2 : dctAt (S ++ more) r = some [(.str "a", v)] := by unfold dctAt; rw [hr2]
    show (match seqAt (S ++ more) r with | some ps => (pdatL (pdatD (S ++ more) 11) ps).map PyData.list | none => match dctAt (S ++ more) r with
      | some kvs => match pdatL (pdatD (S ++ more) 11) (List.map (fun q : PV × PV => q.1) kvs), pdatL (pdatD (S ++ more) 11) (List.map (fun q : PV × PV => q.2) kvs) with
        | some ks, some ds => some (PyData.dict (ks.zip ds))
        | _, _ => none
      | none => none) = _
    rw [s1, s2]
    have p1 : pdatL (pdatD (S ++ more) 11) [PV.str "a"] = some [.str "a"] := rfl
    have p2 : pdatL (pdatD (S ++ more) 11) [v] = some [d] := by
      unfold pdatL
      rw [e 8]
      rfl
    show (match pdatL (pdatD (S ++ more) 11) [PV.str "a"], pdatL (pdatD (S ++ more) 11) [v] with
        | some ks, some ds => some (PyData.dict (ks.zip ds))
        | _, _ => none) = _
    rw [p1, p2]
    rfl
  obtain ⟨z, hz, ez⟩ := rep_of e2 (good_1 g).2.2.2
  exact ⟨z, hz, vr_ref ez⟩
theorem la_c {d : DE} {ds : DA} {η : Env'} {μ μ1 μ2 : Sto} {p : PV} {ps : List PV} (h : d η μ = .ok p μ1) (h2 : ds η μ1 = .ok ps μ2) : dCons d ds η μ = .ok (p :: ps) μ2 := by
  unfold dCons
  rw [h, bindOk, h2]
  rfl
def o1 (μ : Sto) : Sto := μ ++ [MObj.lst []]
def o2 (μ : Sto) : Sto := o1 μ ++ [MObj.dct []]
def o3 (μ : Sto) : Sto := o2 μ ++ [MObj.lst [.int 0]]
def o4 (μ : Sto) : Sto := o3 μ ++ [MObj.lst [.str "a"]]
def A21 (μ : Sto) : List PV := [.non, .bl true, .bl false, .int 0, .int 1, .int (-1), .int 2, .int 7, .str "", .str "a", .str "-", .str "u", .str "goes", .tup [], .ref μ.length, .ref (o1 μ).length, .tup [.int 0], .tup [.tup []], .ref (o2 μ).length, .tup [.str "a"], .ref (o3 μ).length]
def B8 (μ : Sto) : List PV := [.ref μ.length, .tup [.str "goes"], .tup [.str "a", .tup [.str "b"]], .str "word", .tup [.str "|"], .int 100000000, .str "-u-u", .tup [.tup [.str "a"], .str "a"]]
theorem oddA_ok (μ : Sto) (η : Env') : oddA η μ = .ok (.ref (o4 μ).length) (o4 μ ++ [.lst (A21 μ)]) := by kernel_rfl
theorem oddB_ok {μ : Sto} {i j : Nat} {A : List PV} (hj : μ[j]? = some (.lst A)) (hA : A.length = 21) : oddB [some (.ref i), some (.ref j)] μ = .ok [.ref i, .ref (μ ++ [MObj.dct [(.str "a", .int 1)]] ++ [MObj.lst (B8 μ)]).length] (μ ++ [MObj.dct [(.str "a", .int 1)]] ++ [MObj.lst (B8 μ)] ++ [.lst (A ++ B8 μ)]) := by
  have l : ∀ η, dApp vLst (dCons (dDisp [((dC (.str "a")), (dC (.int 1)))]) (dCons (dApp vTup (dCons (dC (.str "goes")) dNil)) (dCons (dApp vTup (dCons (dC (.str "a")) (dCons (dApp vTup (dCons (dC (.str "b")) dNil)) dNil))) (dCons (dC (.str "word")) (dCons (dApp vTup (dCons (dC (.str "|")) dNil)) (dCons (dApp vPow (dCons (dC (.int 10)) (dCons (dC (.int 8)) dNil))) (dCons (dC (.str "-u-u")) (dCons (dApp vTup (dCons (dApp vTup (dCons (dC (.str "a")) dNil)) (dCons (dC (.str "a")) dNil))) dNil)))))))) η μ = .ok (.ref (μ ++ [MObj.dct [(.str "a", .int 1)]]).length) (μ ++ [MObj.dct [(.str "a", .int 1)]] ++ [MObj.lst (B8 μ)]) := fun η => by kernel_rfl
  have hj2 : (μ ++ [MObj.dct [(.str "a", .int 1)]] ++ [MObj.lst (B8 μ)])[j]? = some (.lst A) := by
    have := lt_of_get hj
    rw [List.append_assoc, List.getElem?_append_left this]
    exact hj
  have hk : (μ ++ [MObj.dct [(.str "a", .int 1)]] ++ [MObj.lst (B8 μ)])[(μ ++ [MObj.dct [(.str "a", .int 1)]]).length]? = some (.lst (B8 μ)) := by
    rw [List.getElem?_append_right (Nat.le_refl _), Nat.sub_self]
    rfl
  have ad : vAdd [.ref j, .ref (μ ++ [MObj.dct [(.str "a", .int 1)]]).length] (μ ++ [MObj.dct [(.str "a", .int 1)]] ++ [MObj.lst (B8 μ)]) = .ok (.ref (μ ++ [MObj.dct [(.str "a", .int 1)]] ++ [MObj.lst (B8 μ)]).length) (μ ++ [MObj.dct [(.str "a", .int 1)]] ++ [MObj.lst (B8 μ)] ++ [.lst (A ++ B8 μ)]) := by
    show (match isLst _ j, isLst _ _ with | some ps, some qs => if ps.length + qs.length ≤ sizeLine then Rz.ok (PV.ref _) _ else .bad | _, _ => .bad) = _
    rw [lst_l hj2, lst_l hk]
    exact if_pos (by rw [hA, sizeLine_eq]; show 21 + 8 ≤ _; omega)
  have a2 := ap2 (f := vAdd) (η := [some (PV.ref i), some (PV.ref j)]) (var_st (i := 1) rfl μ) (l _) ad
  exact la_c (var_st (i := 0) rfl μ) (la_c a2 rfl)
end G
namespace G
open PySem PySem.Spec PyProof.Rows L2 DL
/-- what an odd value's making leaves ahead of the draw -/
def oddX (μ : Sto) (a b c : List PV) : Sto := [.lst [], .dct [], .lst [.int 0], .lst [.str "a"], .lst a, .dct [(.str "a", .int 1)], .lst b, .lst c]
theorem odd_store (μ : Sto) : (o4 μ ++ [MObj.lst (A21 μ)]) ++ [MObj.dct [(.str "a", .int 1)]] ++ [MObj.lst (B8 (o4 μ ++ [MObj.lst (A21 μ)]))] ++ [.lst (A21 μ ++ B8 (o4 μ ++ [MObj.lst (A21 μ)]))] = μ ++ oddX μ (A21 μ) (B8 (o4 μ ++ [MObj.lst (A21 μ)])) (A21 μ ++ B8 (o4 μ ++ [MObj.lst (A21 μ)])) := by
  simp [o4, o3, o2, o1, oddX]
theorem odd_in {μ : Sto} {a b c : List PV} {v : PV} (h : v ∈ A21 μ ++ B8 (o4 μ ++ [MObj.lst (A21 μ)])) : OddV (μ ++ oddX μ a b c) v := by
  have g : ∀ k o, (oddX μ a b c)[k]? = some o → (μ ++ oddX μ a b c)[μ.length + k]? = some o := fun k o h => by
    rw [List.getElem?_append_right (by omega), show μ.length + k - μ.length = k by omega]
    exact h
  have l1 : (o1 μ).length = μ.length + 1 := by simp [o1]
  have l2 : (o2 μ).length = μ.length + 2 := by simp [o2, o1]
  have l3 : (o3 μ).length = μ.length + 3 := by simp [o3, o2, o1]
  have l5 : (o4 μ ++ [MObj.lst (A21 μ)]).length = μ.length + 5 := by simp [o4, o3, o2, o1]
  have bs : ∀ {w : PV}, w ∈ bareS → OddV (μ ++ oddX μ a b c) w := fun h => .inl h
  have bt : ∀ {w : PV}, w ∈ bareT → OddV (μ ++ oddX μ a b c) w := fun h => .inr (.inl h)
  rcases List.mem_append.mp h with h | h
  · simp only [A21, List.mem_cons, List.not_mem_nil, or_false] at h
    rcases h with rfl | rfl | rfl | rfl | rfl | rfl | rfl | rfl | rfl | rfl | rfl | rfl | rfl | rfl | rfl | rfl | rfl | rfl | rfl | rfl | rfl
    · exact bs (by simp [bareS])
    · exact bs (by simp [bareS])
    · exact bs (by simp [bareS])
    · exact bs (by simp [bareS])
    · exact bs (by simp [bareS])
    · exact bs (by simp [bareS])
    · exact bs (by simp [bareS])
    · exact bs (by simp [bareS])
    · exact bs (by simp [bareS])
    · exact bs (by simp [bareS])
    · exact bs (by simp [bareS])
    · exact bs (by simp [bareS])
    · exact bs (by simp [bareS])
    · exact bt (by simp [bareT])
    · exact .inr (.inr ⟨_, rfl, .inl (g 0 _ rfl)⟩)
    · exact .inr (.inr ⟨_, rfl, .inr (.inl (by rw [l1]; exact g 1 _ rfl))⟩)
    · exact bt (by simp [bareT])
    · exact bt (by simp [bareT])
    · exact .inr (.inr ⟨_, rfl, .inr (.inr (.inl (by rw [l2]; exact g 2 _ rfl)))⟩)
    · exact bt (by simp [bareT])
    · exact .inr (.inr ⟨_, rfl, .inr (.inr (.inr (.inl (by rw [l3]; exact g 3 _ rfl))))⟩)
  · simp only [B8, List.mem_cons, List.not_mem_nil, or_false] at h
    rcases h with rfl | rfl | rfl | rfl | rfl | rfl | rfl | rfl
    · exact .inr (.inr ⟨_, rfl, .inr (.inr (.inr (.inr (by rw [l5]; exact g 5 _ rfl))))⟩)
    · exact bt (by simp [bareT])
    · exact bt (by simp [bareT])
    · exact bs (by simp [bareS])
    · exact bt (by simp [bareT])
    · exact bs (by simp [bareS])
    · exact bs (by simp [bareS])
    · exact bt (by simp [bareT])
theorem odd_ok {p : Pot} {c : Int} {μ : Sto} {i : Nat} (hp : PotOk p c) (hc : c ≤ 1000) (hi : μ[i]? = some (potO p)) : ∃ (v : PV) (p' : Pot) (more : Sto), PotOk p' (c + 1) ∧ m__law_odd [.ref i] μ = .ok v (μ.set i (potO p') ++ more) ∧ OddV (μ.set i (potO p') ++ more) v := by
  have il := lt_of_get hi
  have hA : (A21 μ).length = 21 := rfl
  have hj : (o4 μ ++ [MObj.lst (A21 μ)])[(o4 μ).length]? = some (.lst (A21 μ)) := by
    rw [List.getElem?_append_right (Nat.le_refl _), Nat.sub_self]
    rfl
  have eb := oddB_ok (i := i) hj hA
  have st := odd_store μ
  have ln : ((o4 μ ++ [MObj.lst (A21 μ)]) ++ [MObj.dct [(.str "a", .int 1)]] ++ [MObj.lst (B8 (o4 μ ++ [MObj.lst (A21 μ)]))]).length = μ.length + 7 := by simp [o4, o3, o2, o1]
  have inn : ∀ v, v ∈ A21 μ ++ B8 (o4 μ ++ [MObj.lst (A21 μ)]) → OddV (μ ++ oddX μ (A21 μ) (B8 (o4 μ ++ [MObj.lst (A21 μ)])) (A21 μ ++ B8 (o4 μ ++ [MObj.lst (A21 μ)]))) v := fun v h => odd_in h
  rw [st, ln] at eb
  have li : (A21 μ ++ B8 (o4 μ ++ [MObj.lst (A21 μ)])).length = 29 := rfl
  have hq : (μ ++ oddX μ (A21 μ) (B8 (o4 μ ++ [MObj.lst (A21 μ)])) (A21 μ ++ B8 (o4 μ ++ [MObj.lst (A21 μ)])))[μ.length + 7]? = some (.lst (A21 μ ++ B8 (o4 μ ++ [MObj.lst (A21 μ)]))) := by
    rw [List.getElem?_append_right (by omega), show μ.length + 7 - μ.length = 7 by omega]
    rfl
  generalize A21 μ ++ B8 (o4 μ ++ [MObj.lst (A21 μ)]) = its at *
  generalize oddX μ (A21 μ) (B8 (o4 μ ++ [MObj.lst (A21 μ)])) its = X at *
  obtain ⟨d, p', hd, hp', sp⟩ := of_ok (its := its) hp hc (by rw [li]; omega) (by rw [li]; omega)
  have hi2 : (μ ++ X)[i]? = some (potO p) := by rw [List.getElem?_append_left il]; exact hi
  obtain ⟨more, e⟩ := sp (μ ++ X) i (μ.length + 7) hi2 hq (by omega)
  have es : (μ ++ X).set i (potO p') = μ.set i (potO p') ++ X := List.set_append_left _ _ il
  have ov := odd_keep (more := more) (p' := p') (inn _ (List.getElem_mem hd)) hi2
  rw [es, List.append_assoc] at ov e
  refine ⟨its[d], p', X ++ more, hp', ?_, ov⟩
  unfold m__law_odd fnBody
  rw [if_pos (show [PV.ref i].length = 1 from rfl)]
  show ((sSeq (sAsg oddA (gSet 1)) (sRet (dApp m__law_of oddB)) [some (.ref i), none] μ).bind _) = _
  rw [seq_st (η1 := [some (.ref i), some (.ref (o4 μ).length)]) (μ1 := o4 μ ++ [.lst (A21 μ)]) (by
    unfold sAsg
    rw [oddA_ok]
    rfl)]
  have e3 : dApp m__law_of oddB [some (.ref i), some (.ref (o4 μ).length)] (o4 μ ++ [.lst (A21 μ)]) = .ok its[d] (μ.set i (potO p') ++ (X ++ more)) := by
    unfold dApp
    rw [eb, bindOk]
    exact e
  unfold sRet
  rw [e3]
  rfl
/-- the value that the law draws -/
theorem value_ok {p : Pot} (hp : PotOk p 0) : ∃ (v : PV) (p' : Pot) (S : Sto), S[0]? = some (potO p') ∧ Shows S v ∧ dApp m__law_of valA [some (.ref 0), none, none, none, none, none, none] [potO p] = .ok v S := by
  have go : ∀ {μ : Sto} {p : Pot} {c : Int}, PotOk p c → c ≤ 1000 → μ[0]? = some (potO p) → ∃ (v : PV) (p' : Pot) (μ' : Sto), PotOk p' (c + 1) ∧ dApp m__law_odd (dCons (dVar 0) dNil) [some (.ref 0), none, none, none, none, none, none] μ = .ok v μ' ∧ OddV μ' v ∧ μ'[0]? = some (potO p') ∧ (∀ w, OddV μ w → OddV μ' w) ∧ (∀ (r : Nat) (o : MObj), r ≠ 0 → μ[r]? = some o → μ'[r]? = some o) := fun {μ p c} hp hc hi => by
    obtain ⟨v, p', more, h1, h2, h3⟩ := odd_ok hp hc hi
    refine ⟨v, p', _, h1, ap1 (var_st (i := 0) rfl _) h2, h3, ?_, fun w hw => odd_keep hw hi, fun r o hr ho => ?_⟩
    · rw [List.getElem?_append_left (by rw [List.length_set]; exact lt_of_get hi), List.getElem?_set_self (lt_of_get hi)]
    · rw [List.getElem?_append_left (by rw [List.length_set]; exact lt_of_get ho), List.getElem?_set_ne (Ne.symm hr)]
      exact ho
  have z0 : ([potO p] : Sto)[0]? = some (potO p) := rfl
  obtain ⟨v1, p1, μ1, a1, b1, c1, d1, k1, f1⟩ := go hp (by omega) z0
  obtain ⟨v2, p2, μ2, a2, b2, c2, d2, k2, f2⟩ := go a1 (by omega) d1
  obtain ⟨v3, p3, μ3, a3, b3, c3, d3, k3, f3⟩ := go a2 (by omega) d2
  have l3 := lt_of_get d3
  have d3' : (μ3 ++ [MObj.lst [v3]])[0]? = some (potO p3) := by rw [List.getElem?_append_left l3]; exact d3
  obtain ⟨v4, p4, μ4, a4, b4, c4, d4, k4, f4⟩ := go a3 (by omega) d3'
  have l4 := lt_of_get d4
  have h3 : (μ3 ++ [MObj.lst [v3]])[μ3.length]? = some (.lst [v3]) := by
    rw [List.getElem?_append_right (Nat.le_refl _), Nat.sub_self]
    rfl
  have h3' := f4 μ3.length _ (by omega) h3
  generalize hμ5 : μ4 ++ [MObj.dct [(.str "a", v4)]] ++ [MObj.lst [v1, .tup [v2, .int 3], .ref μ3.length, .ref μ4.length]] = μ5
  have e5 : μ5 = μ4 ++ ([MObj.dct [(.str "a", v4)]] ++ [MObj.lst [v1, .tup [v2, .int 3], .ref μ3.length, .ref μ4.length]]) := by rw [← hμ5, List.append_assoc]
  have d5 : μ5[0]? = some (potO p4) := by rw [e5, List.getElem?_append_left l4]; exact d4
  have q5 : μ5[μ4.length + 1]? = some (.lst [v1, .tup [v2, .int 3], .ref μ3.length, .ref μ4.length]) := by
    rw [e5, List.getElem?_append_right (by omega), show μ4.length + 1 - μ4.length = 1 by omega]
    rfl
  have g5 : μ5[μ4.length]? = some (.dct [(.str "a", v4)]) := by
    rw [e5, List.getElem?_append_right (Nat.le_refl _), Nat.sub_self]
    rfl
  have h5 : μ5[μ3.length]? = some (.lst [v3]) := by rw [e5, List.getElem?_append_left (lt_of_get h3')]; exact h3'
  have up : ∀ w, OddV μ4 w → OddV μ5 w := fun w hw => by rw [e5]; exact odd_app hw
  have w1 := up _ (k4 _ (odd_app (k3 _ (k2 _ c1))))
  have w2 := up _ (k4 _ (odd_app (k3 _ c2)))
  have w3 := up _ (k4 _ (odd_app c3))
  have w4 := up _ c4
  obtain ⟨d, p5, hd, a5, sp⟩ := of_ok (its := [v1, .tup [v2, .int 3], .ref μ3.length, .ref μ4.length]) a4 (by omega) (by simp) (by simp)
  obtain ⟨more, e⟩ := sp μ5 0 (μ4.length + 1) d5 q5 (by omega)
  have l5 := lt_of_get d5
  refine ⟨([v1, .tup [v2, .int 3], .ref μ3.length, .ref μ4.length] : List PV)[d], p5, μ5.set 0 (potO p5) ++ more, ?_, ?_, ?_⟩
  rotate_left 2
  · have x2 : dApp vTup (dCons (dApp m__law_odd (dCons (dVar 0) dNil)) (dCons (dC (.int 3)) dNil)) [some (.ref 0), none, none, none, none, none, none] μ1 = .ok (.tup [v2, .int 3]) μ2 := ap2 b2 rfl rfl
    have x3 : dApp vLst (dCons (dApp m__law_odd (dCons (dVar 0) dNil)) dNil) [some (.ref 0), none, none, none, none, none, none] μ2 = .ok (.ref μ3.length) (μ3 ++ [.lst [v3]]) := ap1 b3 (lst_k (by simp))
    have x4 : dDisp [((dC (.str "a")), (dApp m__law_odd (dCons (dVar 0) dNil)))] [some (.ref 0), none, none, none, none, none, none] (μ3 ++ [MObj.lst [v3]]) = .ok (.ref μ4.length) (μ4 ++ [MObj.dct [(.str "a", v4)]]) := by
      unfold dDisp
      have pr : dPairs [((dC (.str "a")), (dApp m__law_odd (dCons (dVar 0) dNil)))] [some (.ref 0), none, none, none, none, none, none] (μ3 ++ [MObj.lst [v3]]) = .ok [(.str "a", v4)] μ4 := by
        simp only [dPairs, dC, bindOk]
        rw [b4]
        rfl
      rw [pr, bindOk]
      exact if_pos ⟨rfl, by simp⟩
    have x5 : dApp vLst (dCons (dApp m__law_odd (dCons (dVar 0) dNil)) (dCons (dApp vTup (dCons (dApp m__law_odd (dCons (dVar 0) dNil)) (dCons (dC (.int 3)) dNil))) (dCons (dApp vLst (dCons (dApp m__law_odd (dCons (dVar 0) dNil)) dNil)) (dCons (dDisp [((dC (.str "a")), (dApp m__law_odd (dCons (dVar 0) dNil)))]) dNil)))) [some (.ref 0), none, none, none, none, none, none] [potO p] = .ok (.ref (μ4.length + 1)) μ5 := by
      have lc := la_c b1 (la_c x2 (la_c x3 (la_c x4 (show dNil [some (.ref 0), none, none, none, none, none, none] (μ4 ++ [MObj.dct [(.str "a", v4)]]) = .ok [] _ from rfl))))
      unfold dApp at lc ⊢
      rw [lc, bindOk, lst_k (by simp), ← hμ5]
      simp
    have vl : valA [some (.ref 0), none, none, none, none, none, none] [potO p] = .ok [.ref 0, .ref (μ4.length + 1)] μ5 := la_c (var_st (i := 0) rfl _) (la_c x5 rfl)
    unfold dApp
    rw [vl, bindOk]
    exact e
  · rw [List.getElem?_append_left (by rw [List.length_set]; exact l5), List.getElem?_set_self l5]
  · have kp : ∀ w, OddV μ5 w → OddV (μ5.set 0 (potO p5) ++ more) w := fun w hw => odd_keep hw d5
    have fr : ∀ (r : Nat) (o : MObj), r ≠ 0 → μ5[r]? = some o → (μ5.set 0 (potO p5) ++ more)[r]? = some o := fun r o hr ho => by
      rw [List.getElem?_append_left (by rw [List.length_set]; exact lt_of_get ho), List.getElem?_set_ne (Ne.symm hr)]
      exact ho
    have hd4 : d < 4 := hd
    match d, hd4 with
    | 0, _ => exact shows1 (kp _ w1)
    | 1, _ => exact shows2 (kp _ w2)
    | 2, _ => exact shows3 (kp _ w3) (fr _ _ (by omega) h5)
    | 3, _ => exact shows4 (kp _ w4) (fr _ _ (by omega) g5)
theorem right_ok {p : Pot} (hp : PotOk p 0) : ∃ q : Pot, vAway m__law_right [.ref 0] [potO p] = .ok (.bl true) [potO q] := by
  obtain ⟨v, p', S, h0, R, ev⟩ := value_ok hp
  obtain ⟨m, η', er⟩ := rest_ok (x0 := some (.ref 0)) R
  have e : m__law_right [.ref 0] [potO p] = .ok (.bl true) (S ++ m) := by
    unfold m__law_right fnBody
    rw [if_pos (show [PV.ref 0].length = 1 from rfl)]
    show ((sSeq (sAsg (dApp m__law_of valA) (gSet 1)) restM [some (.ref 0), none, none, none, none, none, none] [potO p]).bind _) = _
    rw [seq_st (η1 := [some (.ref 0), some v, none, none, none, none, none]) (μ1 := S) (by
      unfold sAsg
      rw [ev]
      rfl), er]
    rfl
  refine ⟨p', ?_⟩
  show awayAt m__law_right 0 [] [potO p] (some (potO p)) = _
  unfold awayAt potO
  dsimp only
  rw [if_pos (by constructor <;> rfl)]
  rw [show m__law_right [.ref 0] [MObj.lst [.int p.1, .int p.2.1, .int p.2.2]] = .ok (.bl true) (S ++ m) from e]
  dsimp only
  rw [nth_eq, List.getElem?_append_left (lt_of_get h0), h0]
  rfl
end G
namespace G
open PySem PySem.Spec PyProof.Rows L2 DL
theorem seq_cell {ns : List Int} {μ : Sto} (h : μ[0]? = some (.rol (ns.map .int))) : seqAt μ 0 = some (ns.map .int) ∧ dctAt μ 0 = none := by
  unfold seqAt dctAt
  rw [h]
  exact ⟨rfl, rfl⟩
noncomputable abbrev oneE : DE := dApp (vAway m__law_right) (dCons (dApp m__law_pot (dCons (dVar 0) (dCons (dVar 1) dNil))) dNil)
theorem lc_loop {ns : List Int} {its0 : List PV} : ∀ (its : List Nat) (acc : List PV) (μ : Sto), (∀ i ∈ its, i < 64) → μ[0]? = some (.rol (ns.map .int)) → μ[1]? = some (.lst its0) → acc.length + its.length ≤ 64 → boolsL acc = some (List.replicate acc.length true) →
    ∃ acc' μ', lcGo (fun μ' => sameSeq μ' 1 its0) (gSet 1) tYes' (elOne oneE) [some (.ref 0), none] (its.map fun i => PV.int (i : Nat)) acc μ = .ok acc' μ' ∧ boolsL acc' = some (List.replicate acc'.length true)
  | [], acc, μ, _, _, h1, _, ha => ⟨acc, μ, by simp only [List.map_nil, lcGo, same_l h1, if_true], ha⟩
  | i :: its, acc, μ, hi, h0, h1, hl, ha => by
    obtain ⟨p, hp, ep⟩ := pot_ok (μ := μ) (ns := ns) (j := i) (seq_cell h0).1 (seq_cell h0).2 (hi i (by simp))
    obtain ⟨q, eq⟩ := right_ok hp
    have l0 := lt_of_get h0
    have l1 := lt_of_get h1
    have e1 := away_at (i := μ.length) (μ := μ ++ [potO p]) eq (by simp [potO])
    have e2 : oneE [some (.ref 0), some (.int (i : Nat))] μ = .ok (.bl true) ((μ ++ [potO p]).set μ.length (potO q)) := by
      simp only [oneE, dApp, dCons, dVar, dNil, List.getElem?_cons_zero, List.getElem?_cons_succ, bindOk, ep]
      exact e1
    have sz : acc.length < sizeLine := by
      rw [sizeLine_eq]
      simp at hl
      omega
    have g0 : ((μ ++ [potO p]).set μ.length (potO q))[0]? = some (.rol (ns.map .int)) := by rw [List.getElem?_set_ne (by omega), List.getElem?_append_left l0]; exact h0
    have g1 : ((μ ++ [potO p]).set μ.length (potO q))[1]? = some (.lst its0) := by rw [List.getElem?_set_ne (by omega), List.getElem?_append_left l1]; exact h1
    obtain ⟨acc', μ', e, hb⟩ := lc_loop its (acc ++ [.bl true]) _ (fun j hj => hi j (by simp [hj])) g0 g1 (by simp at hl ⊢; omega) (by
      have : ∀ (l : List PV) (m : List Bool), boolsL l = some m → boolsL (l ++ [.bl true]) = some (m ++ [true]) := fun l => by
        induction l with
        | nil => intro m h; cases h; rfl
        | cons x xs ih =>
          intro m h
          cases x with
          | bl b =>
            rw [boolsL] at h
            obtain ⟨m2, h2, rfl⟩ := Option.map_eq_some_iff.mp h
            rw [List.cons_append, boolsL, ih m2 h2]
            rfl
          | _ => cases h
      rw [this acc _ ha]
      simp [List.replicate_succ'])
    refine ⟨acc', μ', ?_, hb⟩
    rw [← e]
    simp only [List.map_cons, lcGo, same_l h1, if_true, gSet, calmR, bindOk, List.set, tYes', elOne, if_pos sz, e2]
theorem law_ok (ns : List Int) : ∃ μ', m_law [.ref 0] [.rol (ns.map .int)] = .ok (.bl true) μ' := by
  obtain ⟨m, h1, h2, ep⟩ := places_ok (μ := [.rol (ns.map .int)]) (ns := ns) rfl rfl
  obtain ⟨acc', μ', e, hb⟩ := lc_loop (ns := ns) (its0 := (List.range m).map fun i => PV.int (i : Nat)) (List.range m) [] [.rol (ns.map .int), .lst ((List.range m).map fun i => PV.int (i : Nat))] (fun i hi => by have := List.mem_range.mp hi; omega) rfl rfl (by simp; omega) rfl
  have ep : m__law_places [.ref 0, .int 4] [.rol (ns.map .int)] = .ok (.ref 1) [.rol (ns.map .int), .lst ((List.range m).map fun i => PV.int (i : Nat))] := ep
  have sr := src_l (μ := [.rol (ns.map .int), .lst ((List.range m).map fun i => PV.int (i : Nat))]) (i := 1) rfl
  have w : (wipeE [some (.ref 0), none] [1] : Env') = [some (.ref 0), none] := rfl
  have d : dLc (dItA (dApp m__law_places (dCons (dVar 0) (dCons (dC (.int 4)) dNil)))) (gSet 1) tYes' oneE [1] [some (.ref 0), none] [.rol (ns.map .int)] = Rz.ok (PV.ref μ'.length) (μ' ++ [MObj.lst acc']) := by
    unfold dLc dItA
    simp only [dApp, dCons, dVar, dC, dNil, List.getElem?_cons_zero, bindOk, ep, sr, w]
    rw [e]
    rfl
  refine ⟨μ' ++ [MObj.lst acc'], ?_⟩
  unfold m_law b_law fnBody
  rw [if_pos (show [PV.ref 0].length = 1 from rfl)]
  have en : (List.map some [PV.ref 0] ++ List.replicate (2 - 1) none : Env') = [some (.ref 0), none] := rfl
  rw [en]
  have dl : (dApp vAll (dCons (dLc (dItA (dApp m__law_places (dCons (dVar 0) (dCons (dC (.int 4)) dNil)))) (gSet 1) tYes' oneE [1]) dNil)) [some (.ref 0), none] [.rol (ns.map .int)] = Rz.ok (PV.bl true) (μ' ++ [MObj.lst acc']) := by
    show (((dLc _ _ _ _ _ _ _).bind _).bind _) = _
    rw [d]
    have g : seqAt (μ' ++ [MObj.lst acc']) μ'.length = some acc' := by
      unfold seqAt
      simp
    simp only [bindOk, dNil, vAll, v1L, g, Option.bind_some, hb]
    simp
  unfold sRet
  rw [dl]
  rfl
end G
namespace G
open PySem PySem.Spec PyProof.Rows L2 DL
/-- the start: the script's list at the first number -/
theorem start_of {P : Program} {w : World} {K : PySem.W.Frag} {H : Hp} {o : Obj} {a : Addr} {ns : List Int} {F : VF} (tabs : tabsK K = tabL) (h1 : ∀ p ∈ cs, H p.2 = some (.tbl #[])) (h2 : ∀ p ∈ cs, p.2 ≠ a) (hf : H a = some (.frz o (.lst (ns.map V.int))))
    (h : ∃ μ', F [.ref 0] [.rol (ns.map .int)] = .ok (.bl true) μ') : spD P w K 1 F [.ref a] H (fun v _ => v = .bl true) fun _ _ _ => False := by
  have rv : ∀ l : List Int, RVs K [a] H (l.map PV.int) (l.map V.int) := fun l => by
    induction l with
    | nil => exact .nil
    | cons x xs ih => exact .cons (.int x) ih
  have bare : ∀ l : List Int, bareL (l.map PV.int) = true := fun l => by
    induction l with
    | nil => rfl
    | cons x xs ih => rw [List.map_cons, bareL, ih]; rfl
  obtain ⟨μ', e⟩ := h
  refine ⟨rfl, [a], [.rol (ns.map .int)], [.ref 0], .cons (.ref rfl) .nil, ⟨rfl, by simp, fun i b x hb hx => ?_, fun p hp => ?_⟩, ?_⟩
  · match i, hb, hx with
    | 0, hb, hx =>
      cases hb
      cases hx
      exact ⟨_, .inr ⟨o, hf⟩, rv ns, bare ns⟩
    | i + 1, hb, hx => simp at hb
  · rw [tabs] at hp
    have hm : p.1 ∈ cs.map (·.2) := by
      have e : tabL.map (·.1) = cs.map (·.2) := rfl
      rw [← e]
      exact List.mem_map_of_mem hp
    obtain ⟨c, hc, e2⟩ := List.mem_map.mp hm
    refine ⟨fun z => ?_, #[], ?_, by simp [TriplesOk], fun pos cv hv => ?_⟩
    · rw [← e2] at z
      exact h2 c hc (List.mem_singleton.mp z)
    · rw [← e2]
      exact h1 c hc
    · exact absurd hv (by simp [codeAmong])
  · rw [e]
    intro ρ' x H' st r t
    cases r with
    | bl b => rfl
end G
open PySem PySem.W PyProof.Rows
theorem PySem.Challenge.cw_lostmetres_k00_errors_keep_their_values_holds : PySem.Challenge.rw_lostmetres_k00_errors_keep_their_values.Holds := by
  w_on; o_law
  refine HandSHeadRun.head_any (r := OpenLaw.row PySem.Challenge.rw_lostmetres_k00_errors_keep_their_values) (q := G.qv) (H := DL.hookT G.tbs G.xfs G.adrs G.exs G.fns) (ob := DL.obT G.tbs G.xfs G.adrs G.exs G.fns) (M := 8000) (loose := G.names) (d := HandSHeadRun.topDef (OpenLaw.row PySem.Challenge.rw_lostmetres_k00_errors_keep_their_values).prog 36) (kwd := []) DL.obT_eq
    (by kernel_rfl) (fun s => by kernel_rfl) G.run (by kernel_rfl) (by kernel_rfl) (by kernel_rfl) (by rfl) (by first | assumption | decide +kernel) (by decide +kernel) ⟨rfl, rfl, rfl, rfl, rfl, by decide +kernel⟩ ?hw ?hc
  case hw => w_witness2
  case hc =>
    refine DL.walk_ofT (cs := G.cs) (l := PySem.Challenge.rw_lostmetres_k00_errors_keep_their_values) (n := 63) (k := 5) (x := "_law_script") rfl (by decide) (by kernel_rfl) ⟨rfl, by decide, by decide⟩ ?F
    intro w mg fa h Y G0 hmg0
    obtain ⟨K, KX, nl, c, tbP, xfP⟩ := Y
    have hmg : mg ("law" : PySem.Str) = some (.ref fa) := by
      have e : (HandSHeadRun.topDef (OpenLaw.row PySem.Challenge.rw_lostmetres_k00_errors_keep_their_values).prog 36).name = ("law" : PySem.Str) := by kernel_rfl
      rw [← e]
      exact hmg0
    have T := G.fx_of KX G0 c
    have gl := G.glo_law KX G0 c
    have e := hmg.symm.trans gl
    cases e
    obtain ⟨fd, F⟩ := T.d_law
    have b := L2.FunD.bindsA (ps := ["_law_script"]) F fun _ _ _ _ _ _ us hl => match us, hl with | [_], _ => rfl
    have xi := DL.xi_of (l := 5) (.inl rfl) T.xi1 T.xi2 T.xi3 (xfP _ (.head _)) (by kernel_rfl)
    exact ⟨K, fd, DL.spD _ w K 1 G.m_law, KX, nl, fun p hp => tbP p.2 (by
        have e : G.tbs = G.cs.map (·.2) := rfl
        rw [e]
        exact List.mem_map_of_mem hp), (fun _ h => nomatch h), DL.bltB_ok KX G0 T.blt, fun s v => b s [v] rfl, fun H o a ns hl h1 h2 hf => G.start_of T.tabs h1 h2 hf (G.law_ok ns), fun base _ _ tb => G.ok_law (base := base) ⟨T, xi, tb⟩ F⟩
