import PyProof.Rows.All
import Wide.All
import OpenK.AllK
import Wide.FinOn
import KE.RegKIsAll
import HandS.Base
import HandS.Call
import HandS.List
import HandS.Comp
import HandS.Exc
import HandS.ExcOwn
import HandS.TryOnly
import HandS.CallSlots
import HandS.Dict
import HandS.Iter
import HandS.Text
import HandS.Deep
import HandS.Words
import HandS.WordsExc
import KE.KeyNested
import KE.KDictKeyed
import KE.KDictDisplayH
import HandS.Lambda
import HandS.TupAny
import HandS.Small
import HandS.Ends
import HandS.EndBits
import HandS.Defaults
import HandS.IsInst
import HandS.CallRecv
import HandS.ExcInit
import HandS.TupMul
import HandS.Style
import PyProof.ReprRoads
import PyProof.SliceStr2
import HandS.More
import PyProof.InstNe
import KE.KDictZip
import KE.GoesZip
import KE.GoesMore
import HandS.GenList
import HandS.MapJoin
import HandS.RaiseMore
import KE.GoesEnum
import HandS.Rev
import HandS.Strs
import HandS.SetFor
import HandS.ExcIs
import PyProof.EqAt
import PyProof.MeetsIn
import PyProof.P3In
import PyProof.NeKinds
import KE.KDictLaws
import HandS.FStr
import PyProof.SliceStr
import PyProof.NeData
import HandS.WideBits
import HandS.EndTab
import PyProof.ReprLen
import KE.KLam
import KE.KNestM
import PySem.Challenge.RW_loopforms_k01_values_measured
set_option Elab.async false
set_option autoImplicit false
set_option linter.all false
set_option maxRecDepth 100000
namespace L3
open PySem L2
/-- data: tuples are trees; lists, dicts, instances, defs are at addresses -/
inductive D where
  | non | bl (b : Bool) | int (i : Int) | str (x : Str) | ty (n : String) | tup (xs : List D) | rls (xs : List D) | ref (a : Addr)
/-- what stands at an address: a list, a dict, an instance (of the class numbered c). (D.rls: a list that is only read: the script) -/
inductive CO where
  | lst (xs : List D)
  | dic (kvs : List (Key × D))
  | dtk (kvs : List (NestedKey × D))
  | ins (c : Nat) (fs : List (Str × D))
noncomputable abbrev CH := Addr → Option CO
noncomputable def cup (C : CH) (a : Addr) (o : CO) : CH := fun b => if b = a then some o else C b
theorem cup_same {C : CH} {a : Addr} {o : CO} : cup C a o a = some o := by unfold cup; rw [if_pos rfl]
theorem cup_ne {C : CH} {a b : Addr} {o : CO} (h : b ≠ a) : cup C a o b = C b := by unfold cup; rw [if_neg h]
theorem cup_cup {C : CH} {a : Addr} {o u : CO} : cup (cup C a o) a u = cup C a u := by
  funext b; unfold cup; split <;> rfl
/-- an exception: its class's number, its own attributes -/
structure Exn where
  cls : Nat
  fs : List (Str × D) := []
noncomputable abbrev Env3 := List (Option D)
noncomputable abbrev Kv := D → CH → Prop
noncomputable abbrev Kx := Exn → CH → Prop
noncomputable abbrev Kxs := Exn → Env3 → CH → Prop
noncomputable abbrev CTE := Env3 → CH → Kv → Prop
noncomputable abbrev CTT := Env3 → CH → (Bool → CH → Prop) → Prop
noncomputable abbrev CTA := Env3 → CH → (List D → CH → Prop) → Prop
/-- a def in which lambdas are made: its scope's names, its code object, that one's table, the lambdas' name -/
structure LamR where
  names : List (Str × NameKind)
  c : Addr
  P : Addr
  q : Str
/-- the law's classes, its program, its world, its makers of lambdas -/
structure ClsT where
  f : Nat → Option Addr
  P : Program
  w : World
  tb : List LamR := []
instance : CoeFun ClsT fun _ => Nat → Option Addr := ⟨ClsT.f⟩
mutual
noncomputable def keyT : D → Option NestedKey
  | .non => some .none
  | .bl b => some (.num (if b = true then 1 else 0))
  | .int i => some (.num i)
  | .str x => some (.text x)
  | .tup ds => match keysT ds with
    | some ks => some (.tup ks)
    | none => none
  | _ => none
noncomputable def keysT : List D → Option (List NestedKey)
  | [] => some []
  | d :: ds => match keyT d, keysT ds with
    | some k, some ks => some (k :: ks)
    | _, _ => none
end
/-- a dict whose keys are tuples stands at a: its entries (the keys' own objects aside) -/
noncomputable def DRaw (P : Program) (w : World) (h : Heap) (a : Addr) (xs : List (NestedKey × Addr × Value)) : Prop := xs.length ≤ sizeLine ∧ (a == sysModules) = false ∧
  ∃ o es ep, h.get? a = some o ∧ o.ExactDict ∧ o.data = .dict es ep ∧ es.toList = xs.map (entryOfKey (nestedKind P w)) ∧ (xs.map (·.1)).Nodup
noncomputable abbrev DTO (cl : ClsT) (a : Addr) (xs : List (NestedKey × Addr × Value)) : HO := .ext fun h => DRaw cl.P cl.w h a xs
/-- a list that nobody writes: known to the object, or of the module -/
noncomputable def RlS (K : PySem.W.Frag) (H : Hp) (a : Addr) (xs : List V) : Prop := (∃ o, H a = some (.frz o (.lst xs))) ∨
  ∃ (o : Obj) (its : Array Value) (n : Nat), K.lookup a = some o ∧ o.cls = .type "list" ∧ o.dict = none ∧ o.data = .seq its n ∧ its.size ≤ sizeLine ∧ Vals xs its.toList
section
variable (K : PySem.W.Frag) (cl : ClsT)
mutual
inductive Rep (H : Hp) : D → V → Prop
  | non : Rep H .non .non
  | bl (b : Bool) : Rep H (.bl b) (.bl b)
  | int (i : Int) : Rep H (.int i) (.int i)
  | str (x : Str) : Rep H (.str x) (.str x)
  | ty (n : String) : Rep H (.ty n) (.ty n)
  | ref (a : Addr) : Rep H (.ref a) (.ref a)
  | tup {a : Addr} {vs : List V} {ds : List D} : SqT K H a vs → RepL H ds vs → Rep H (.tup ds) (.ref a)
  | rls {a : Addr} {vs : List V} {ds : List D} : RlS K H a vs → RepL H ds vs → Rep H (.rls ds) (.ref a)
inductive RepL (H : Hp) : List D → List V → Prop
  | nil : RepL H [] []
  | cons {d : D} {ds : List D} {v : V} {vs : List V} : Rep H d v → RepL H ds vs → RepL H (d :: ds) (v :: vs)
end
/-- slots -/
inductive RepS (H : Hp) : Env3 → St → Prop
  | nil : RepS H [] []
  | no {σc : Env3} {σ : St} : RepS H σc σ → RepS H (none :: σc) (none :: σ)
  | so {d : D} {v : V} {σc : Env3} {σ : St} : Rep K H d v → RepS H σc σ → RepS H (some d :: σc) (some v :: σ)
/-- pairs by a key -/
inductive RepF {κ : Type} (H : Hp) : List (κ × D) → List (κ × V) → Prop
  | nil : RepF H [] []
  | cons {k : κ} {d : D} {v : V} {ds : List (κ × D)} {vs : List (κ × V)} : Rep K H d v → RepF H ds vs → RepF H ((k, d) :: ds) ((k, v) :: vs)
/-- the entries of such a dict: key, the key's object, value -/
inductive RepK (H : Hp) : List (NestedKey × D) → List (NestedKey × Addr × Value) → Prop
  | nil : RepK H [] []
  | cons {k : NestedKey} {t d : D} {b : Addr} {v : V} {u : Value} {ds : List (NestedKey × D)} {xs : List (NestedKey × Addr × Value)} : keyT t = some k → k.depth ≤ 8 → Rep K H t (.ref b) → Rep K H d v → RelV v u → RepK H ds xs → RepK H ((k, d) :: ds) ((k, b, u) :: xs)
noncomputable def OkO (H : Hp) (a : Addr) : CO → Prop
  | .lst ds => ∃ vs, H a = some (.lst vs) ∧ RepL K H ds vs
  | .dic ds => ∃ vs, H a = some (.dK vs) ∧ RepF K H ds vs
  | .dtk ds => ∃ xs, H a = some (DTO cl a xs) ∧ RepK K H ds xs
  | .ins c ds => ∃ Ca dx vs, cl c = some Ca ∧ H a = some (.ins Ca dx vs) ∧ RepF K H ds vs
noncomputable def tabsOf : List (Addr × Str) := cl.tb.map fun r => (r.P, r.q)
structure Rel (H : Hp) (C : CH) : Prop where
  at_ : ∀ a o, C a = some o → OkO K cl H a o
  tab : LamX.Tabs (tabsOf cl) H
end
instance {K : PySem.W.Frag} {cl : ClsT} {H : Hp} {C : CH} : CoeFun (Rel K cl H C) fun _ => ∀ a o, C a = some o → OkO K cl H a o := ⟨Rel.at_⟩
/-- not a table of code objects -/
noncomputable def NT (o : HO) : Prop := ∀ ps, o ≠ .tbl ps
/-- what the clean heap does not speak of stands as it was, the tables aside -/
noncomputable def Keep (H : Hp) (C : CH) (H' : Hp) (C' : CH) : Prop := ∀ b o, H b = some o → C b = none → NT o → H' b = some o ∧ C' b = none
theorem Keep.refl {H : Hp} {C : CH} : Keep H C H C := fun _ _ h n _ => ⟨h, n⟩
theorem Keep.trans {H H1 H2 : Hp} {C C1 C2 : CH} (k : Keep H C H1 C1) (l : Keep H1 C1 H2 C2) : Keep H C H2 C2 := fun b o h n t =>
  let ⟨h1, n1⟩ := k b o h n t
  l b o h1 n1 t
theorem NT.tup {vs : List V} : NT (.tup vs) := fun _ z => by cases z
theorem NT.frz {o : Obj} {u : HO} : NT (.frz o u) := fun _ z => by cases z
theorem NT.lst {vs : List V} : NT (.lst vs) := fun _ z => by cases z
theorem NT.dK {vs : List (Key × V)} : NT (.dK vs) := fun _ z => by cases z
theorem NT.xd {vs : List (Str × V)} : NT (.xd vs) := fun _ z => by cases z
theorem NT.ins {C x : Addr} {vs : List (Str × V)} : NT (.ins C x vs) := fun _ z => by cases z
theorem NT.ext {p : Heap → Prop} : NT (.ext p) := fun _ z => by cases z
theorem NT.own {a : Addr} : NT (.own a) := fun _ z => by cases z
/-- a heap with this object at a -/
noncomputable def heapAt (a : Addr) (o : Obj) : Heap := ⟨Array.replicate (a + 1) o, {}⟩
theorem heapAt_get {a : Addr} {o : Obj} (h : o.data ≠ .freed) : (heapAt a o).get? a = some o := by
  have e : (heapAt a o).objs[a]? = some o := by
    show (Array.replicate (a + 1) o)[a]? = some o
    simp
  unfold Heap.get?
  rw [e]
  split
  · rename_i e'; cases e'; exact (h rfl).elim
  · rfl
theorem DTO_ne {cl : ClsT} {a : Addr} {xs : List (NestedKey × Addr × Value)} {q : Str} : DTO cl a xs ≠ LamX.CodeO a q := fun z => by
  have e : (fun h => DRaw cl.P cl.w h a xs) = fun h : Heap => ∃ (oc : Obj) (vs : Array Value) (t : Tok), h.get? a = some oc ∧ oc.data = .fields vs ∧ vs[1]? = some (.str q t) := HO.ext.inj z
  have t : Tok := 0
  have g := heapAt_get (a := a) (o := { cls := .none, data := .fields #[.none, .str q t] }) (by intro z; cases z)
  have := congrFun e (heapAt a { cls := .none, data := .fields #[.none, .str q t] })
  have h : DRaw cl.P cl.w (heapAt a { cls := .none, data := .fields #[.none, .str q t] }) a xs := this ▸ ⟨_, _, t, g, rfl, rfl⟩
  obtain ⟨_, _, o, es, ep, h1, _, h2, _⟩ := h
  rw [g] at h1
  cases h1
  cases h2
/-- what the clean heap knows is no table, no code object -/
theorem OkO.odd {K : PySem.W.Frag} {cl : ClsT} {H : Hp} {a : Addr} {o : CO} (h : OkO K cl H a o) : ∃ u, H a = some u ∧ NT u ∧ ∀ q, u ≠ LamX.CodeO a q := by
  cases o with
  | lst ds => obtain ⟨vs, h, _⟩ := h; exact ⟨_, h, .lst, fun q z => by cases z⟩
  | dic ds => obtain ⟨vs, h, _⟩ := h; exact ⟨_, h, .dK, fun q z => by cases z⟩
  | dtk ds => obtain ⟨vs, h, _⟩ := h; exact ⟨_, h, .ext, fun q => DTO_ne⟩
  | ins c ds => obtain ⟨_, _, vs, _, h, _⟩ := h; exact ⟨_, h, .ins, fun q z => by cases z⟩
theorem _root_.LamX.Tabs.write {T : List (Addr × Str)} {H : Hp} {a : Addr} {u o : HO} (t : LamX.Tabs T H) (h : H a = some u) (n1 : NT u) (n2 : ∀ q, u ≠ LamX.CodeO a q) : LamX.Tabs T (upd H a o) := fun p hp => by
  obtain ⟨ps, h1, h2, h3⟩ := t p hp
  refine ⟨ps, ?_, h2, fun pos cv hc => ?_⟩
  · rw [upd_ne (fun z => by rw [z, h] at h1; exact n1 ps (Option.some.inj h1))]; exact h1
  · obtain ⟨c, e1, e2⟩ := h3 pos cv hc
    refine ⟨c, e1, ?_⟩
    rw [upd_ne (fun z => by subst z; rw [h] at e2; exact n2 _ (Option.some.inj e2))]; exact e2
theorem _root_.LamX.Tabs.new {T : List (Addr × Str)} {H : Hp} {a : Addr} {o : HO} (t : LamX.Tabs T H) (h : H a = none) : LamX.Tabs T (upd H a o) := t.ext fun b u e => by rw [upd_ne (ne_of_none e h)]; exact e
section
variable {K : PySem.W.Frag} {cl : ClsT} {H H' H1 : Hp} {C C' C1 : CH}
theorem RepL.length : ∀ {ds : List D} {vs : List V}, RepL K H ds vs → ds.length = vs.length
  | _, _, .nil => rfl
  | _, _, .cons _ t => congrArg (· + 1) t.length
theorem RepL.get : ∀ {ds : List D} {vs : List V} {i : Nat} {d : D}, RepL K H ds vs → ds[i]? = some d → ∃ v, vs[i]? = some v ∧ Rep K H d v
  | _, _, _, _, .nil, e => by simp at e
  | _, _, 0, _, .cons r _, e => by simp at e; subst e; exact ⟨_, rfl, r⟩
  | _, _, i + 1, d, .cons _ t, e => by
    obtain ⟨u, h1, h2⟩ := RepL.get (i := i) (d := d) t (by simpa using e)
    exact ⟨u, by simpa using h1, h2⟩
theorem RepL.append : ∀ {ds es : List D} {vs us : List V}, RepL K H ds vs → RepL K H es us → RepL K H (ds ++ es) (vs ++ us)
  | _, _, _, _, .nil, t => t
  | _, _, _, _, .cons r s, t => .cons r (RepL.append s t)
theorem RepL.set {d : D} {v : V} (r : Rep K H d v) : ∀ {ds : List D} {vs : List V} (i : Nat), RepL K H ds vs → RepL K H (ds.set i d) (vs.set i v)
  | _, _, _, .nil => .nil
  | _, _, 0, .cons _ t => .cons r t
  | _, _, i + 1, .cons q t => .cons q (RepL.set r i t)
theorem RepL.take : ∀ {ds : List D} {vs : List V} (n : Nat), RepL K H ds vs → RepL K H (ds.take n) (vs.take n)
  | _, _, 0, _ => .nil
  | _, _, _ + 1, .nil => .nil
  | _, _, n + 1, .cons r t => .cons r (RepL.take n t)
theorem RepL.drop : ∀ {ds : List D} {vs : List V} (n : Nat), RepL K H ds vs → RepL K H (ds.drop n) (vs.drop n)
  | _, _, 0, r => r
  | _, _, _ + 1, .nil => .nil
  | _, _, n + 1, .cons _ t => RepL.drop n t
theorem RepL.eraseIdx : ∀ {ds : List D} {vs : List V} (i : Nat), RepL K H ds vs → RepL K H (ds.eraseIdx i) (vs.eraseIdx i)
  | _, _, _, .nil => .nil
  | _, _, 0, .cons _ t => t
  | _, _, i + 1, .cons r t => .cons r (RepL.eraseIdx i t)
theorem RepS.length : ∀ {σc : Env3} {σ : St}, RepS K H σc σ → σc.length = σ.length
  | _, _, .nil => rfl
  | _, _, .no t => congrArg (· + 1) t.length
  | _, _, .so _ t => congrArg (· + 1) t.length
theorem RepS.get : ∀ {σc : Env3} {σ : St} {i : Nat} {d : D}, RepS K H σc σ → σc[i]? = some (some d) → ∃ v, σ[i]? = some (some v) ∧ Rep K H d v
  | _, _, _, _, .nil, e => by simp at e
  | _, _, 0, _, .no _, e => by simp at e
  | _, _, 0, _, .so r _, e => by simp at e; subst e; exact ⟨_, rfl, r⟩
  | _, _, i + 1, d, .no t, e => by
    obtain ⟨u, h1, h2⟩ := RepS.get (i := i) (d := d) t (by simpa using e)
    exact ⟨u, by simpa using h1, h2⟩
  | _, _, i + 1, d, .so _ t, e => by
    obtain ⟨u, h1, h2⟩ := RepS.get (i := i) (d := d) t (by simpa using e)
    exact ⟨u, by simpa using h1, h2⟩
theorem RepS.set {d : D} {v : V} (r : Rep K H d v) : ∀ {σc : Env3} {σ : St} (i : Nat), RepS K H σc σ → RepS K H (σc.set i (some d)) (σ.set i (some v))
  | _, _, _, .nil => .nil
  | _, _, 0, .no t => .so r t
  | _, _, 0, .so _ t => .so r t
  | _, _, i + 1, .no t => .no (RepS.set r i t)
  | _, _, i + 1, .so q t => .so q (RepS.set r i t)
theorem RepS.wipe1 : ∀ {σc : Env3} {σ : St} (i : Nat), RepS K H σc σ → RepS K H (σc.set i none) (σ.set i none)
  | _, _, _, .nil => .nil
  | _, _, 0, .no t => .no t
  | _, _, 0, .so _ t => .no t
  | _, _, i + 1, .no t => .no (RepS.wipe1 i t)
  | _, _, i + 1, .so q t => .so q (RepS.wipe1 i t)
theorem RepF.lookup {ds : List (Str × D)} {vs : List (Str × V)} {f : Str} {d : D} (h : RepF K H ds vs) (e : ds.lookup f = some d) : ∃ v, vs.lookup f = some v ∧ Rep K H d v := by
  induction h with
  | nil => simp at e
  | @cons k d' v' ds' vs' r t ih =>
    rw [List.lookup_cons] at e ⊢
    cases hb : f == k with
    | true => rw [hb] at e; simp at e; subst e; exact ⟨v', rfl, r⟩
    | false => rw [hb] at e; exact ih e
theorem RepF.length {κ : Type} : ∀ {ds : List (κ × D)} {vs : List (κ × V)}, RepF K H ds vs → ds.length = vs.length
  | _, _, .nil => rfl
  | _, _, .cons _ t => congrArg (· + 1) t.length
theorem Rel.noTup (R : Rel K cl H C) {a : Addr} {xs : List V} (h : Rd H a (.tup xs)) : C a = none := by
  cases e : C a with
  | none => rfl
  | some o =>
    have q := R a o e
    cases o with
    | lst ds =>
      obtain ⟨vs, hl, _⟩ := q
      rcases h with h | ⟨u, h⟩ <;> (rw [hl] at h; cases h)
    | dic ds =>
      obtain ⟨vs, hl, _⟩ := q
      rcases h with h | ⟨u, h⟩ <;> (rw [hl] at h; cases h)
    | dtk ds =>
      obtain ⟨vs, hl, _⟩ := q
      rcases h with h | ⟨u, h⟩ <;> (rw [hl] at h; cases h)
    | ins c ds =>
      obtain ⟨_, _, vs, _, hl, _⟩ := q
      rcases h with h | ⟨u, h⟩ <;> (rw [hl] at h; cases h)
theorem Rel.noFrz (R : Rel K cl H C) {a : Addr} {o : Obj} {u : HO} (h : H a = some (.frz o u)) : C a = none := by
  cases e : C a with
  | none => rfl
  | some w =>
    have q := R a w e
    cases w with
    | lst ds => obtain ⟨vs, hl, _⟩ := q; rw [hl] at h; cases h
    | dic ds => obtain ⟨vs, hl, _⟩ := q; rw [hl] at h; cases h
    | dtk ds => obtain ⟨vs, hl, _⟩ := q; rw [hl] at h; cases h
    | ins c ds => obtain ⟨_, _, vs, _, hl, _⟩ := q; rw [hl] at h; cases h
theorem RlS.keep (R : Rel K cl H C) (k : Keep H C H' C') {a : Addr} {xs : List V} (h : RlS K H a xs) : RlS K H' a xs := by
  rcases h with ⟨o, h⟩ | h
  · exact .inl ⟨o, (k _ _ h (R.noFrz h) .frz).1⟩
  · exact .inr h
theorem RlS.sq {a : Addr} {xs : List V} (h : RlS K H a xs) : SqL K H a xs := by
  rcases h with ⟨o, h⟩ | h
  · exact .inl (.inr ⟨o, h⟩)
  · exact .inr h
theorem SqT.keep (R : Rel K cl H C) (k : Keep H C H' C') {a : Addr} {xs : List V} (h : SqT K H a xs) : SqT K H' a xs := by
  rcases h with h | h
  · have n := R.noTup h
    rcases h with h | ⟨o, h⟩
    · exact .inl (.inl (k _ _ h n .tup).1)
    · exact .inl (.inr ⟨o, (k _ _ h n .frz).1⟩)
  · exact .inr h
mutual
theorem Rep.keep (R : Rel K cl H C) (k : Keep H C H' C') : ∀ {d : D} {v : V}, Rep K H d v → Rep K H' d v
  | _, _, .non => .non
  | _, _, .bl b => .bl b
  | _, _, .int b => .int b
  | _, _, .str b => .str b
  | _, _, .ty b => .ty b
  | _, _, .ref b => .ref b
  | _, _, .tup s t => .tup (SqT.keep R k s) (RepL.keep R k t)
  | _, _, .rls s t => .rls (RlS.keep R k s) (RepL.keep R k t)
theorem RepL.keep (R : Rel K cl H C) (k : Keep H C H' C') : ∀ {d : List D} {v : List V}, RepL K H d v → RepL K H' d v
  | _, _, .nil => .nil
  | _, _, .cons r t => .cons (Rep.keep R k r) (RepL.keep R k t)
end
theorem RepS.keep (R : Rel K cl H C) (k : Keep H C H' C') : ∀ {d : Env3} {v : St}, RepS K H d v → RepS K H' d v
  | _, _, .nil => .nil
  | _, _, .no t => .no (RepS.keep R k t)
  | _, _, .so r t => .so (r.keep R k) (RepS.keep R k t)
theorem RepF.keep {κ : Type} (R : Rel K cl H C) (k : Keep H C H' C') : ∀ {d : List (κ × D)} {v : List (κ × V)}, RepF K H d v → RepF K H' d v
  | _, _, .nil => .nil
  | _, _, .cons r t => .cons (r.keep R k) (RepF.keep R k t)
theorem RepK.keep (R : Rel K cl H C) (k : Keep H C H' C') : ∀ {d : List (NestedKey × D)} {v : List (NestedKey × Addr × Value)}, RepK K H d v → RepK K H' d v
  | _, _, .nil => .nil
  | _, _, .cons e z t r q rs => .cons e z (t.keep R k) (r.keep R k) q (RepK.keep R k rs)
theorem RepK.length : ∀ {ds : List (NestedKey × D)} {xs : List (NestedKey × Addr × Value)}, RepK K H ds xs → ds.length = xs.length
  | _, _, .nil => rfl
  | _, _, .cons _ _ _ _ _ t => congrArg (· + 1) t.length
/-- the clean heap is a part of another one -/
noncomputable def Sub (C C' : CH) : Prop := ∀ a o, C a = some o → C' a = some o
theorem Sub.refl {C : CH} : Sub C C := fun _ _ h => h
theorem Sub.trans {C C1 C2 : CH} (a : Sub C C1) (b : Sub C1 C2) : Sub C C2 := fun c o h => b c o (a c o h)
theorem Sub.new {C : CH} {p : Addr} {o : CO} (h : C p = none) : Sub C (cup C p o) := fun a u e => by
  rw [cup_ne (by intro z; rw [z, h] at e; cases e)]; exact e
theorem Rel.sub (R : Rel K cl H C) (s : Sub C' C) : Rel K cl H C' := ⟨fun a o e => R a o (s a o e), R.tab⟩
theorem Keep.sub (k : Keep H C H' C1) (s : Sub C' C1) : Keep H C H' C' := fun b o h n t =>
  let ⟨h1, n1⟩ := k b o h n t
  ⟨h1, by
    cases e : C' b with
    | none => rfl
    | some u => rw [s b u e] at n1; cases n1⟩
/-- a new object in H that the clean heap does not know (a tuple, the dict of an instance ..) -/
theorem free_of (R : Rel K cl H C) {p : Addr} (h : H p = none) : C p = none := by
  cases e : C p with
  | none => rfl
  | some o =>
    have q := R p o e
    cases o with
    | lst ds => obtain ⟨vs, hl, _⟩ := q; rw [h] at hl; cases hl
    | dic ds => obtain ⟨vs, hl, _⟩ := q; rw [h] at hl; cases hl
    | dtk ds => obtain ⟨vs, hl, _⟩ := q; rw [h] at hl; cases hl
    | ins c ds => obtain ⟨_, _, vs, _, hl, _⟩ := q; rw [h] at hl; cases hl
end
end L3
namespace L3
open PySem L2
structure EndsC where
  nx : Env3 → CH → Prop
  rt : Kv
  bk : Env3 → CH → Prop := fun _ _ => False
  ct : Env3 → CH → Prop := fun _ _ => False
noncomputable abbrev CTS := EndsC → Env3 → CH → Prop
structure S3 (K : PySem.W.Frag) (cl : ClsT) (H0 : Hp) (C0 : CH) (σ : St) (H : Hp) (σc : Env3) (C : CH) : Prop where
  s : RepS K H σc σ
  r : Rel K cl H C
  f : Keep H0 C0 H C
theorem S3.step {K : PySem.W.Frag} {cl : ClsT} {H0 H H' : Hp} {C0 C C' : CH} {σ : St} {σc : Env3} (S : S3 K cl H0 C0 σ H σc C) (k : Keep H C H' C') (r : Rel K cl H' C') : S3 K cl H0 C0 σ H' σc C' :=
  ⟨S.s.keep S.r k, r, S.f.trans k⟩
section
variable (K : PySem.W.Frag) (cl : ClsT) (H0 : Hp) (C0 : CH)
noncomputable def EndE (H : Hp) (C : CH) (Qc : Kv) (Q : VK) : Prop := ∀ d C' v H', Qc d C' → Rep K H' d v → Rel K cl H' C' → Keep H C H' C' → Q v H'
noncomputable def EndT (H : Hp) (C : CH) (Qc : Bool → CH → Prop) (Q : Bool → Hp → Prop) : Prop := ∀ b C' H', Qc b C' → Rel K cl H' C' → Keep H C H' C' → Q b H'
noncomputable def EndA (H : Hp) (C : CH) (Qc : List D → CH → Prop) (Q : List V → Hp → Prop) : Prop := ∀ ds C' vs H', Qc ds C' → RepL K H' ds vs → Rel K cl H' C' → Keep H C H' C' → Q vs H'
noncomputable def EndN (H : Hp) (C : CH) (Qc : Env3 → CH → Prop) (Q : St → Hp → Prop) : Prop := ∀ σc C' σ H', Qc σc C' → RepS K H' σc σ → Rel K cl H' C' → Keep H C H' C' → Q σ H'
structure EndS (H : Hp) (C : CH) (Dc : EndsC) (D : Ends) : Prop where
  nx : EndN K cl H C Dc.nx D.nx
  rt : EndE K cl H C Dc.rt D.rt
  bk : EndN K cl H C Dc.bk D.bk
  ct : EndN K cl H C Dc.ct D.ct
noncomputable def tE (c : CTE) : TE := fun σ H Q => ∃ σc C Qc, S3 K cl H0 C0 σ H σc C ∧ c σc C Qc ∧ EndE K cl H C Qc Q
noncomputable def tT (c : CTT) : TT := fun σ H Q => ∃ σc C Qc, S3 K cl H0 C0 σ H σc C ∧ c σc C Qc ∧ EndT K cl H C Qc Q
noncomputable def tA (c : CTA) : TA := fun σ H Q => ∃ σc C Qc, S3 K cl H0 C0 σ H σc C ∧ c σc C Qc ∧ EndA K cl H C Qc Q
noncomputable def tS (c : CTS) : TS := fun D σ H => ∃ σc C Dc, S3 K cl H0 C0 σ H σc C ∧ c Dc σc C ∧ EndS K cl H C Dc D
noncomputable def XRel (H : Hp) (x : Exn) (cls : Value) (d : Option Addr) : Prop := ∃ Ca, cl x.cls = some Ca ∧ cls = .ref Ca ∧ ((d = none ∧ x.fs = []) ∨ ∃ a fs, x.fs ≠ [] ∧ d = some a ∧ H a = some (.xd fs) ∧ RepF K H x.fs fs)
/-- the wish of a context -/
noncomputable def WC (ex : Kxs) : WX := fun cls d σ H => ∃ x σc C, ex x σc C ∧ XRel K cl H x cls d ∧ S3 K cl H0 C0 σ H σc C
end
section
variable {K : PySem.W.Frag} {cl : ClsT} {H H1 H2 : Hp} {C C1 C2 : CH}
theorem EndE.from_ {Qc : Kv} {Q : VK} (h : EndE K cl H C Qc Q) (k : Keep H C H1 C1) : EndE K cl H1 C1 Qc Q := fun d C' v H' q r R k' => h d C' v H' q r R (k.trans k')
theorem EndN.from_ {Qc : Env3 → CH → Prop} {Q : St → Hp → Prop} (h : EndN K cl H C Qc Q) (k : Keep H C H1 C1) : EndN K cl H1 C1 Qc Q := fun d C' v H' q r R k' => h d C' v H' q r R (k.trans k')
theorem EndS.from_ {Dc : EndsC} {D : Ends} (h : EndS K cl H C Dc D) (k : Keep H C H1 C1) : EndS K cl H1 C1 Dc D := ⟨h.nx.from_ k, h.rt.from_ k, h.bk.from_ k, h.ct.from_ k⟩
theorem EndE.now {Qc : Kv} {Q : VK} {d : D} {v : V} (h : EndE K cl H C Qc Q) (q : Qc d C) (r : Rep K H d v) (R : Rel K cl H C) : Q v H := h d C v H q r R Keep.refl
end
theorem _root_.L2.PE.imp {X : Cx} {e : Expr} {t t' : TE} (h : PE X e t) (i : ∀ σ H Q, t' σ H Q → t σ H Q) : PE X e t' := ⟨fun pins s σ H Q I q => h.run pins s σ H Q I (i _ _ _ q)⟩
theorem _root_.L2.PT.imp {X : Cx} {e : Expr} {t t' : TT} (h : PT X e t) (i : ∀ σ H Q, t' σ H Q → t σ H Q) : PT X e t' := ⟨fun pins s σ H Q I q => h.run pins s σ H Q I (i _ _ _ q)⟩
theorem _root_.L2.PW.imp {X : Cx} {e : Expr} {t t' : TT} (h : PW X e t) (i : ∀ σ H Q, t' σ H Q → t σ H Q) : PW X e t' := ⟨fun wh pins s σ H Q I q => h.run wh pins s σ H Q I (i _ _ _ q)⟩
theorem _root_.L2.PA.imp {X : Cx} {es : List Expr} {t t' : TA} (h : PA X es t) (i : ∀ σ H Q, t' σ H Q → t σ H Q) : PA X es t' := ⟨fun p pins s σ H Q I q => h.run p pins s σ H Q I (i _ _ _ q)⟩
theorem _root_.L2.PS.imp {X : Cx} {st : Stmt} {t t' : TS} (h : PS X st t) (i : ∀ D σ H, t' D σ H → t D σ H) : PS X st t' := ⟨fun pins s σ H D I q => h.run pins s σ H D I (i _ _ _ q)⟩
theorem _root_.L2.PSs.imp {X : Cx} {st : List Stmt} {t t' : TS} (h : PSs X st t) (i : ∀ D σ H, t' D σ H → t D σ H) : PSs X st t' := ⟨fun pins s σ H D I q => h.run pins s σ H D I (i _ _ _ q)⟩
section
variable (X : Cx) (cl : ClsT) (H0 : Hp) (C0 : CH)
noncomputable def CPE (e : Expr) (c : CTE) : Prop := PE X e (tE X.K cl H0 C0 c)
noncomputable def CPT (e : Expr) (c : CTT) : Prop := PT X e (tT X.K cl H0 C0 c)
noncomputable def CPW (e : Expr) (c : CTT) : Prop := PW X e (tT X.K cl H0 C0 c)
noncomputable def CPA (e : List Expr) (c : CTA) : Prop := PA X e (tA X.K cl H0 C0 c)
noncomputable def CPS (e : Stmt) (c : CTS) : Prop := PS X e (tS X.K cl H0 C0 c)
noncomputable def CPSs (e : List Stmt) (c : CTS) : Prop := PSs X e (tS X.K cl H0 C0 c)
end
noncomputable def cVar (i : Nat) : CTE := fun σ C Q => ∃ d, σ[i]? = some (some d) ∧ Q d C
noncomputable def cC (d : D) : CTE := fun _ C Q => Q d C
noncomputable abbrev O2 := D → D → CH → Kv → Prop
noncomputable abbrev O1 := D → CH → Kv → Prop
noncomputable abbrev OL := List D → CH → Kv → Prop
noncomputable def cBin (o : O2) (a b : CTE) : CTE := fun σ C Q => a σ C fun d C1 => b σ C1 fun e C2 => o d e C2 Q
noncomputable def cUn (o : O1) (a : CTE) : CTE := fun σ C Q => a σ C fun d C1 => o d C1 Q
noncomputable def cList (o : OL) (a : CTA) : CTE := fun σ C Q => a σ C fun ds C1 => o ds C1 Q
section
variable (K : PySem.W.Frag) (cl : ClsT)
/-- a rule by values over V is met by a clean one -/
noncomputable def Lk2 (r : R2) (o : O2) : Prop := ∀ H C d e v u Q Qc, Rep K H d v → Rep K H e u → Rel K cl H C → o d e C Qc → EndE K cl H C Qc Q → r v u H Q
noncomputable def Lk1 (r : V → Hp → VK → Prop) (o : O1) : Prop := ∀ H C d v Q Qc, Rep K H d v → Rel K cl H C → o d C Qc → EndE K cl H C Qc Q → r v H Q
noncomputable def LkL (r : List V → Hp → VK → Prop) (o : OL) : Prop := ∀ H C ds vs Q Qc, RepL K H ds vs → Rel K cl H C → o ds C Qc → EndE K cl H C Qc Q → r vs H Q
end
section
variable {X : Cx} {cl : ClsT} {H0 : Hp} {C0 : CH} {a b c e : Expr} {es : List Expr} {ca cb cc : CTE} {pos : Pos}
theorem cpe_var {i : Nat} {x : Str} (hN : X.N[i]? = some x) (hv : Vis X.env.scope x) (hd : (x == ("__debug__" : Str)) = false) (hcd : (x == ("__classdict__" : Str)) = false) : CPE X cl H0 C0 (.Name x pos) (cVar i) :=
  (pe_var hN hv hd hcd).imp fun σ H Q ⟨σc, C, Qc, S, ⟨d, e, q⟩, hq⟩ => by
    obtain ⟨v, h1, h2⟩ := S.s.get e
    exact ⟨v, h1, hq.now q h2 S.r⟩
theorem tC_of {d : D} {v : V} (r : ∀ H, Rep X.K H d v) : ∀ σ H Q, tE X.K cl H0 C0 (cC d) σ H Q → tC v σ H Q := fun σ H Q ⟨σc, C, Qc, S, q, hq⟩ => hq.now q (r H) S.r
theorem cpe_int {i : Int} {j : Nat} : CPE X cl H0 C0 (.Constant (.int i) j pos) (cC (.int i)) := pe_int.imp (tC_of fun _ => .int i)
theorem cpe_bl {i : Bool} {j : Nat} : CPE X cl H0 C0 (.Constant (.bool i) j pos) (cC (.bl i)) := pe_bl.imp (tC_of fun _ => .bl i)
theorem cpe_non {j : Nat} : CPE X cl H0 C0 (.Constant .none j pos) (cC .non) := pe_non.imp (tC_of fun _ => .non)
theorem cpe_str {i : Str} {j : Nat} : CPE X cl H0 C0 (.Constant (.str i) j pos) (cC (.str i)) := pe_str.imp (tC_of fun _ => .str i)
theorem cpe_glob {x : Str} {d : D} {v : V} {u : Value} (hg : Gl X x) (hm : X.mg x = some u) (r : RelV v u) (rd : ∀ H, Rep X.K H d v) (hd : (x == ("__debug__" : Str)) = false) : CPE X cl H0 C0 (.Name x pos) (cC d) :=
  (pe_glob hg hm r hd).imp (tC_of rd)
theorem cpe_bin {op : Operator} {r : R2} {o : O2} (ho : OpR X (binaryOp op) r) (l : Lk2 X.K cl r o) (ha : CPE X cl H0 C0 a ca) (hb : CPE X cl H0 C0 b cb) : CPE X cl H0 C0 (.BinOp a op b pos) (cBin o ca cb) :=
  (pe_op ho ha hb).imp fun σ H Q ⟨σc, C, Qc, S, h, hq⟩ => ⟨σc, C, _, S, h, fun d C1 v H1 h1 rv R1 k1 => ⟨σc, C1, _, S.step k1 R1, h1, fun e C2 u H2 h2 ru R2 k2 =>
    l H2 C2 d e v u Q Qc (rv.keep R1 k2) ru R2 h2 ((hq.from_ k1).from_ k2)⟩⟩
theorem tOp_of {r : R2} {o : O2} {ta tb : TE} (l : Lk2 X.K cl r o) : ∀ σ H Q, tE X.K cl H0 C0 (cBin o ca cb) σ H Q → tOp r (tE X.K cl H0 C0 ca) (tE X.K cl H0 C0 cb) σ H Q :=
  fun σ H Q ⟨σc, C, Qc, S, h, hq⟩ => ⟨σc, C, _, S, h, fun d C1 v H1 h1 rv R1 k1 => ⟨σc, C1, _, S.step k1 R1, h1, fun e C2 u H2 h2 ru R2 k2 =>
    l H2 C2 d e v u Q Qc (rv.keep R1 k2) ru R2 h2 ((hq.from_ k1).from_ k2)⟩⟩
theorem cpe_un {op : UnaryOp} {r : V → Hp → VK → Prop} {o : O1} (ho : UnR X (unaryOp op) r) (l : Lk1 X.K cl r o) (ha : CPE X cl H0 C0 a ca) : CPE X cl H0 C0 (.UnaryOp op a pos) (cUn o ca) :=
  (pe_un ho ha).imp fun σ H Q ⟨σc, C, Qc, S, h, hq⟩ => ⟨σc, C, _, S, h, fun d C1 v H1 h1 rv R1 k1 => l H1 C1 d v Q Qc rv R1 h1 (hq.from_ k1)⟩
theorem cpe_cmp {op : CmpOp} {r : R2} {o : O2} (ho : OpR X (compareOp op) r) (l : Lk2 X.K cl r o) (ha : CPE X cl H0 C0 a ca) (hb : CPE X cl H0 C0 b cb) (hm : behindInMarks op b = false) : CPE X cl H0 C0 (.Compare a [op] [b] pos) (cBin o ca cb) :=
  (pe_cmpR ho ha hb hm).imp (tOp_of (ta := tE X.K cl H0 C0 ca) (tb := tE X.K cl H0 C0 cb) l)
/-- a value that is a bool, as a test -/
noncomputable def cTst (c : CTE) : CTT := fun σ C Q => c σ C fun d C1 => ∃ b, d = .bl b ∧ Q b C1
theorem cpt_cmp {op : CmpOp} {r : R2} {o : O2} (ho : OpR X (compareOp op) r) (l : Lk2 X.K cl r o) (ha : CPE X cl H0 C0 a ca) (hb : CPE X cl H0 C0 b cb) (hm : behindInMarks op b = false) : CPT X cl H0 C0 (.Compare a [op] [b] pos) (cTst (cBin o ca cb)) :=
  (pt_cmpR ho ha hb hm).imp fun σ H Q ⟨σc, C, Qc, S, h, hq⟩ => ⟨σc, C, _, S, h, fun d C1 v H1 h1 rv R1 k1 => ⟨σc, C1, _, S.step k1 R1, h1, fun e C2 u H2 h2 ru R2 k2 =>
    l H2 C2 d e v u _ _ (rv.keep R1 k2) ru R2 h2 fun z C3 w H3 h3 rz R3 k3 => by
      obtain ⟨b, rfl, q⟩ := h3
      cases rz
      exact ⟨b, rfl, hq b C3 H3 q R3 ((k1.trans k2).trans k3)⟩⟩⟩
theorem cpt_val (ha : CPE X cl H0 C0 a ca) (he : ∀ whole, isTrue a X.env whole = (do let v ← whole; standAt a.pos; holding [v] (truthy v))) : CPT X cl H0 C0 a (cTst ca) :=
  (pt_val ha he).imp fun σ H Q ⟨σc, C, Qc, S, h, hq⟩ => ⟨σc, C, _, S, h, fun z C1 w H1 h1 rz R1 k1 => by
      obtain ⟨b, rfl, q⟩ := h1
      cases rz
      exact ⟨b, rfl, hq b C1 H1 q R1 k1⟩⟩
/-- a value that is a bool or None, as a test -/
noncomputable def tstD : D → (Bool → Prop) → Prop
  | .bl b, Q => Q b
  | .non, Q => Q false
  | _, _ => False
noncomputable def cTsN (c : CTE) : CTT := fun σ C Q => c σ C fun d C1 => tstD d fun b => Q b C1
noncomputable def cAnd (a b : CTT) : CTT := fun σ C Q => a σ C fun c C1 => if c = true then b σ C1 Q else Q false C1
noncomputable def cOr (a b : CTT) : CTT := fun σ C Q => a σ C fun c C1 => if c = true then Q true C1 else b σ C1 Q
noncomputable def cNot (a : CTT) : CTT := fun σ C Q => a σ C fun c C1 => Q (!c) C1
variable {ka kb : CTT} {rest : List Expr}
theorem EndT.from_ {K : PySem.W.Frag} {H H1 : Hp} {C C1 : CH} {Qc : Bool → CH → Prop} {Q : Bool → Hp → Prop} (h : EndT K cl H C Qc Q) (k : Keep H C H1 C1) : EndT K cl H1 C1 Qc Q := fun d C' H' q R k' => h d C' H' q R (k.trans k')
theorem cpw_and1 (ha : CPT X cl H0 C0 a ka) : CPW X cl H0 C0 (.BoolOp .And [a] pos) ka := pw_and1 ha
theorem cpw_or1 (ha : CPT X cl H0 C0 a ka) : CPW X cl H0 C0 (.BoolOp .Or [a] pos) ka := pw_or1 ha
theorem cpw_and (ha : CPT X cl H0 C0 a ka) (hb : CPW X cl H0 C0 (.BoolOp .And (b :: rest) pos) kb) : CPW X cl H0 C0 (.BoolOp .And (a :: b :: rest) pos) (cAnd ka kb) :=
  (pw_and ha hb).imp fun σ H Q ⟨σc, C, Qc, S, h, hq⟩ => ⟨σc, C, _, S, h, fun z C1 H1 h1 R1 k1 => by
    cases z with
    | true => exact iteT ⟨σc, C1, _, S.step k1 R1, h1, hq.from_ k1⟩
    | false => exact iteF (hq _ _ _ h1 R1 k1)⟩
theorem cpw_or (ha : CPT X cl H0 C0 a ka) (hb : CPW X cl H0 C0 (.BoolOp .Or (b :: rest) pos) kb) : CPW X cl H0 C0 (.BoolOp .Or (a :: b :: rest) pos) (cOr ka kb) :=
  (pw_or ha hb).imp fun σ H Q ⟨σc, C, Qc, S, h, hq⟩ => ⟨σc, C, _, S, h, fun z C1 H1 h1 R1 k1 => by
    cases z with
    | true => exact iteT (hq _ _ _ h1 R1 k1)
    | false => exact iteF ⟨σc, C1, _, S.step k1 R1, h1, hq.from_ k1⟩⟩
theorem CPW.pt (h : CPW X cl H0 C0 a ka) : CPT X cl H0 C0 a ka := L2.PW.pt h
theorem cpt_not (ha : CPT X cl H0 C0 a ka) : CPT X cl H0 C0 (.UnaryOp .Not a pos) (cNot ka) :=
  (pt_not ha).imp fun σ H Q ⟨σc, C, Qc, S, h, hq⟩ => ⟨σc, C, _, S, h, fun z C1 H1 h1 R1 k1 => hq _ _ _ h1 R1 k1⟩
/-- and, or, not as values: all but the last are bools -/
noncomputable def cAndV (a b : CTE) : CTE := fun σ C Q => a σ C fun d C1 => ∃ c, d = .bl c ∧ if c = true then b σ C1 Q else Q (.bl false) C1
noncomputable def cOrV (a b : CTE) : CTE := fun σ C Q => a σ C fun d C1 => ∃ c, d = .bl c ∧ if c = true then Q (.bl true) C1 else b σ C1 Q
noncomputable def cNotV (a : CTE) : CTE := fun σ C Q => a σ C fun d C1 => ∃ c, d = .bl c ∧ Q (.bl (!c)) C1
theorem cpe_one {op} (h : CPE X cl H0 C0 a ca) : CPE X cl H0 C0 (.BoolOp op [a] pos) ca := pe_one h
theorem cpe_and (ha : CPE X cl H0 C0 a ca) (hb : CPE X cl H0 C0 (.BoolOp .And (b :: rest) pos) cb) : CPE X cl H0 C0 (.BoolOp .And (a :: b :: rest) pos) (cAndV ca cb) :=
  (pe_and ha hb).imp fun σ H Q ⟨σc, C, Qc, S, h, hq⟩ => ⟨σc, C, _, S, h, fun z C1 v H1 h1 rz R1 k1 => by
    obtain ⟨c, rfl, h1⟩ := h1
    cases rz
    refine ⟨c, rfl, ?_⟩
    cases c with
    | true => exact iteT ⟨σc, C1, _, S.step k1 R1, h1, hq.from_ k1⟩
    | false => exact iteF (hq _ _ _ _ h1 (.bl _) R1 k1)⟩
theorem cpe_or (ha : CPE X cl H0 C0 a ca) (hb : CPE X cl H0 C0 (.BoolOp .Or (b :: rest) pos) cb) : CPE X cl H0 C0 (.BoolOp .Or (a :: b :: rest) pos) (cOrV ca cb) :=
  (pe_or ha hb).imp fun σ H Q ⟨σc, C, Qc, S, h, hq⟩ => ⟨σc, C, _, S, h, fun z C1 v H1 h1 rz R1 k1 => by
    obtain ⟨c, rfl, h1⟩ := h1
    cases rz
    refine ⟨c, rfl, ?_⟩
    cases c with
    | true => exact iteT (hq _ _ _ _ h1 (.bl _) R1 k1)
    | false => exact iteF ⟨σc, C1, _, S.step k1 R1, h1, hq.from_ k1⟩⟩
theorem cpe_not (ha : CPE X cl H0 C0 a ca) : CPE X cl H0 C0 (.UnaryOp .Not a pos) (cNotV ca) :=
  (pe_not ha).imp fun σ H Q ⟨σc, C, Qc, S, h, hq⟩ => ⟨σc, C, _, S, h, fun z C1 v H1 h1 rz R1 k1 => by
    obtain ⟨c, rfl, h1⟩ := h1
    cases rz
    exact ⟨c, rfl, hq _ _ _ _ h1 (.bl _) R1 k1⟩⟩
noncomputable def cIf (t : CTT) (a b : CTE) : CTE := fun σ C Q => t σ C fun c C1 => if c = true then a σ C1 Q else b σ C1 Q
theorem cpe_if (ht : CPT X cl H0 C0 c ka) (ha : CPE X cl H0 C0 a ca) (hb : CPE X cl H0 C0 b cb) : CPE X cl H0 C0 (.IfExp c a b pos) (cIf ka ca cb) :=
  (pe_ifExp ht ha hb).imp fun σ H Q ⟨σc, C, Qc, S, h, hq⟩ => ⟨σc, C, _, S, h, fun z C1 H1 h1 R1 k1 => by
    cases z with
    | true => exact iteT ⟨σc, C1, _, S.step k1 R1, h1, hq.from_ k1⟩
    | false => exact iteF ⟨σc, C1, _, S.step k1 R1, h1, hq.from_ k1⟩⟩
noncomputable def cNil : CTA := fun _ C Q => Q [] C
noncomputable def cCons (a : CTE) (r : CTA) : CTA := fun σ C Q => a σ C fun d C1 => r σ C1 fun ds C2 => Q (d :: ds) C2
variable {cs : CTA}
theorem cpa_nil : CPA X cl H0 C0 [] cNil := pa_nil.imp fun σ H Q ⟨σc, C, Qc, S, h, hq⟩ => hq _ _ _ _ h .nil S.r Keep.refl
theorem cpa_cons (ha : CPE X cl H0 C0 e ca) (hr : CPA X cl H0 C0 es cs) (hs : starEach (e :: es) X.env = (false, eval e X.env) :: starEach es X.env) : CPA X cl H0 C0 (e :: es) (cCons ca cs) :=
  (pa_cons ha hr hs).imp fun σ H Q ⟨σc, C, Qc, S, h, hq⟩ => ⟨σc, C, _, S, h, fun d C1 v H1 h1 rv R1 k1 => ⟨σc, C1, _, S.step k1 R1, h1, fun ds C2 vs H2 h2 rs R2 k2 =>
    hq _ _ _ _ h2 (.cons (rv.keep R1 k2) rs) R2 (k1.trans k2)⟩⟩
noncomputable def oTup : OL := fun ds C Q => ds.length ≤ sizeLine ∧ Q (.tup ds) C
noncomputable def oLst : OL := fun ds C Q => ds.length ≤ sizeLine ∧ ∀ p, C p = none → Q (.ref p) (cup C p (.lst ds))
end
section
variable {K : PySem.W.Frag} {cl : ClsT} {H : Hp} {C : CH}
theorem keep_newH {p : Addr} (hp : H p = none) (o : HO) (R : Rel K cl H C) : Keep H C (upd H p o) C := fun b u h n _ => ⟨by rw [upd_ne (ne_of_none h hp)]; exact h, n⟩
theorem Rd.newH {p : Addr} (hp : H p = none) (o : HO) {a : Addr} {u : HO} (h : Rd H a u) : Rd (upd H p o) a u := by
  rcases h with h | ⟨w, h⟩
  · exact .inl (by rw [upd_ne (ne_of_none h hp)]; exact h)
  · exact .inr ⟨w, by rw [upd_ne (ne_of_none h hp)]; exact h⟩
theorem OkO.newH {p : Addr} (hp : H p = none) (R : Rel K cl H C) (o : HO) {a : Addr} {u : CO} (h : OkO K cl H a u) : OkO K cl (upd H p o) a u := by
  have k := keep_newH hp o R
  cases u with
  | lst ds => obtain ⟨vs, h1, h2⟩ := h; exact ⟨vs, by rw [upd_ne (ne_of_none h1 hp)]; exact h1, h2.keep R k⟩
  | dic ds => obtain ⟨vs, h1, h2⟩ := h; exact ⟨vs, by rw [upd_ne (ne_of_none h1 hp)]; exact h1, h2.keep R k⟩
  | dtk ds => obtain ⟨vs, h1, h2⟩ := h; exact ⟨vs, by rw [upd_ne (ne_of_none h1 hp)]; exact h1, h2.keep R k⟩
  | ins c ds => obtain ⟨Ca, dx, vs, h0, h1, h2⟩ := h; exact ⟨Ca, dx, vs, h0, by rw [upd_ne (ne_of_none h1 hp)]; exact h1, h2.keep R k⟩
theorem Rel.newH {p : Addr} (hp : H p = none) (R : Rel K cl H C) (o : HO) : Rel K cl (upd H p o) C := ⟨fun a u e => (R a u e).newH hp R o, R.tab.new hp⟩
/-- a new object, known to the clean heap too -/
theorem Rel.new {p : Addr} (hp : H p = none) (R : Rel K cl H C) (o : HO) (u : CO) (ok : OkO K cl (upd H p o) p u) : Rel K cl (upd H p o) (cup C p u) := ⟨fun a w e => by
  by_cases h : a = p
  · subst h; rw [cup_same] at e; cases e; exact ok
  · rw [cup_ne h] at e; exact (R a w e).newH hp R o, R.tab.new hp⟩
theorem Keep.new {p : Addr} (hp : H p = none) (R : Rel K cl H C) (o : HO) (u : CO) : Keep H C (upd H p o) (cup C p u) := fun b w h n _ =>
  ⟨by rw [upd_ne (ne_of_none h hp)]; exact h, by rw [cup_ne (ne_of_none h hp)]; exact n⟩
/-- an object of the clean heap is written -/
theorem Keep.write {a : Addr} {u : CO} (e : C a = some u) (o : HO) (u' : CO) : Keep H C (upd H a o) (cup C a u') := fun b w h n _ => by
  have hb : b ≠ a := by intro z; rw [z, e] at n; cases n
  exact ⟨by rw [upd_ne hb]; exact h, by rw [cup_ne hb]; exact n⟩
end
end L3
namespace L3
open PySem L2
section
variable {K : PySem.W.Frag} {cl : ClsT} {H : Hp} {C : CH}
/-- a new tuple at p -/
theorem EndE.tup {Qc : Kv} {Q : VK} {ds : List D} {vs : List V} (h : EndE K cl H C Qc Q) (q : Qc (.tup ds) C) (r : RepL K H ds vs) (R : Rel K cl H C) {p : Addr} (hp : H p = none) : Q (.ref p) (upd H p (.tup vs)) :=
  h _ _ _ _ q (.tup (.inl (.inl upd_same)) (r.keep R (keep_newH hp _ R))) (R.newH hp _) (keep_newH hp _ R)
/-- a new list at p -/
theorem EndE.lst {Qc : Kv} {Q : VK} {ds : List D} {vs : List V} (h : EndE K cl H C Qc Q) (r : RepL K H ds vs) (R : Rel K cl H C) {p : Addr} (hp : H p = none) (q : Qc (.ref p) (cup C p (.lst ds))) : Q (.ref p) (upd H p (.lst vs)) :=
  h _ _ _ _ q (.ref p) (R.new hp _ _ ⟨vs, upd_same, r.keep R (keep_newH hp _ R)⟩) (Keep.new hp R _ _)
theorem Rel.write (R : Rel K cl H C) {a : Addr} {u u' : CO} {o o' : HO} (e : C a = some u) (he : H a = some o) (nt : ∀ vs, ¬ Rd H a (.tup vs)) (ok : OkO K cl (upd H a o') a u') : Rel K cl (upd H a o') (cup C a u') := ⟨fun b w hb => by
  by_cases h : b = a
  · subst h; rw [cup_same] at hb; cases hb; exact ok
  · rw [cup_ne h] at hb
    have k : Keep H C (upd H a o') (cup C a u') := Keep.write e _ _
    have q := R b w hb
    cases w with
    | lst ds => obtain ⟨vs, h1, h2⟩ := q; exact ⟨vs, by rw [upd_ne h]; exact h1, h2.keep R k⟩
    | dic ds => obtain ⟨vs, h1, h2⟩ := q; exact ⟨vs, by rw [upd_ne h]; exact h1, h2.keep R k⟩
    | dtk ds => obtain ⟨vs, h1, h2⟩ := q; exact ⟨vs, by rw [upd_ne h]; exact h1, h2.keep R k⟩
    | ins c ds => obtain ⟨Ca, dx, vs, h0, h1, h2⟩ := q; exact ⟨Ca, dx, vs, h0, by rw [upd_ne h]; exact h1, h2.keep R k⟩, by
  obtain ⟨_, h1, h2, h3⟩ := (R a u e).odd
  exact R.tab.write h1 h2 h3⟩
/-- a list written -/
theorem Rel.wlst (R : Rel K cl H C) {a : Addr} {u : CO} {vs : List V} {ds' : List D} {vs' : List V} (e : C a = some u) (he : H a = some (.lst vs)) (r : RepL K H ds' vs') : Rel K cl (upd H a (.lst vs')) (cup C a (.lst ds')) :=
  R.write e he (fun xs h => by rcases h with h | ⟨z, h⟩ <;> (rw [he] at h; cases h)) ⟨vs', upd_same, r.keep R (Keep.write e _ (.lst ds'))⟩
/-- a list read -/
noncomputable def LsC (C : CH) (p : Addr) (ds : List D) : Prop := C p = some (.lst ds)
theorem Rel.ls (R : Rel K cl H C) {p : Addr} {ds : List D} (h : LsC C p ds) : ∃ vs, SqL K H p vs ∧ RepL K H ds vs := by
  obtain ⟨vs, h1, h2⟩ := R p _ h
  exact ⟨vs, .inl (.inl h1), h2⟩
/-- a sequence read: a tuple or a list -/
noncomputable def SqC (C : CH) (d : D) (ds : List D) : Prop := d = .tup ds ∨ d = .rls ds ∨ ∃ p, d = .ref p ∧ LsC C p ds
theorem Rel.sq (R : Rel K cl H C) {d : D} {v : V} {ds : List D} (h : SqC C d ds) (r : Rep K H d v) : ∃ p vs, v = .ref p ∧ (SqL K H p vs ∨ SqT K H p vs) ∧ RepL K H ds vs := by
  rcases h with rfl | rfl | ⟨p, rfl, h⟩
  · cases r with
    | tup s t => exact ⟨_, _, rfl, .inr s, t⟩
  · cases r with
    | rls s t => exact ⟨_, _, rfl, .inl s.sq, t⟩
  · cases r
    obtain ⟨vs, h1, h2⟩ := R.ls h
    exact ⟨p, vs, rfl, .inl h1, h2⟩
end
section
variable {X : Cx} {cl : ClsT} {H0 : Hp} {C0 : CH} {e : Expr} {es : List Expr} {ca : CTE} {cs : CTA} {pos : Pos}
theorem cpe_tup {x1} (h : CPA X cl H0 C0 es cs) : CPE X cl H0 C0 (.Tuple es x1 pos) (cList oTup cs) :=
  (pe_tup h).imp fun σ H Q ⟨σc, C, Qc, S, h, hq⟩ => ⟨σc, C, _, S, h, fun ds C1 vs H1 ⟨hl, h1⟩ rs R1 k1 => ⟨by rw [← rs.length]; exact hl, fun p hp => (hq.from_ k1).tup h1 rs R1 hp⟩⟩
theorem cpe_lst (h : CPA X cl H0 C0 es cs) : CPE X cl H0 C0 (.List es pos) (cList oLst cs) :=
  (pe_lst h).imp fun σ H Q ⟨σc, C, Qc, S, h, hq⟩ => ⟨σc, C, _, S, h, fun ds C1 vs H1 ⟨hl, h1⟩ rs R1 k1 => ⟨by rw [← rs.length]; exact hl, fun p hp => (hq.from_ k1).lst rs R1 hp (h1 p (free_of R1 hp))⟩⟩
/-- a built-in function called -/
theorem cpe_callB {x : Str} {id : String} {p : Pos} {r : List V → Hp → VK → Prop} {o : OL} (hc : CallR X (.builtin id) r) (l : LkL X.K cl r o) (hg : Gl X x) (hm : X.mg x = none) (hv : bootBuiltins x = some (.builtin id)) (ha : CPA X cl H0 C0 (e :: es) cs) (hn : x ≠ "__name__") (hdb : (x == ("__debug__" : Str)) = false)
    (he : starEach (e :: es) X.env = (false, eval e X.env) :: starEach es X.env) (hpl : (backTo pos (starEach es X.env)).any (·.1) = false) : CPE X cl H0 C0 (.Call (.Name x p) (e :: es) [] pos) (cList o cs) :=
  (pe_callB hc hg hm hv ha hn hdb he hpl).imp fun σ H Q ⟨σc, C, Qc, S, h, hq⟩ => ⟨σc, C, _, S, h, fun ds C1 vs H1 h1 rs R1 k1 => l H1 C1 ds vs Q Qc rs R1 h1 (hq.from_ k1)⟩
theorem cpe_callTy {x : Str} {T : String} {p : Pos} {r : List V → Hp → VK → Prop} {o : OL} (hc : CallR X (.type T) r) (l : LkL X.K cl r o) (hg : Gl X x) (hm : X.mg x = none) (hv : bootBuiltins x = some (.type T)) (ha : CPA X cl H0 C0 (e :: es) cs) (hn : x ≠ "__name__") (hdb : (x == ("__debug__" : Str)) = false)
    (he : starEach (e :: es) X.env = (false, eval e X.env) :: starEach es X.env) (hpl : (backTo pos (starEach es X.env)).any (·.1) = false) : CPE X cl H0 C0 (.Call (.Name x p) (e :: es) [] pos) (cList o cs) :=
  (pe_callTy hc hg hm hv ha hn hdb he hpl).imp fun σ H Q ⟨σc, C, Qc, S, h, hq⟩ => ⟨σc, C, _, S, h, fun ds C1 vs H1 h1 rs R1 k1 => l H1 C1 ds vs Q Qc rs R1 h1 (hq.from_ k1)⟩
end
section
variable {K : PySem.W.Frag} {cl : ClsT}
theorem Lk2.or {r r' : R2} {o o' : O2} (h : Lk2 K cl r o) (h' : Lk2 K cl r' o') : Lk2 K cl (fun x y H Q => r x y H Q ∨ r' x y H Q) (fun x y C Q => o x y C Q ∨ o' x y C Q) := fun H C d e v u Q Qc rd re R q hq =>
  q.elim (fun q => .inl (h H C d e v u Q Qc rd re R q hq)) fun q => .inr (h' H C d e v u Q Qc rd re R q hq)
theorem LkL.or {r r' : List V → Hp → VK → Prop} {o o' : OL} (h : LkL K cl r o) (h' : LkL K cl r' o') : LkL K cl (fun x H Q => r x H Q ∨ r' x H Q) (fun x C Q => o x C Q ∨ o' x C Q) := fun H C ds vs Q Qc rd R q hq =>
  q.elim (fun q => .inl (h H C ds vs Q Qc rd R q hq)) fun q => .inr (h' H C ds vs Q Qc rd R q hq)
theorem RepL.one {H : Hp} {d : D} {vs : List V} (h : RepL K H [d] vs) : ∃ v, vs = [v] ∧ Rep K H d v := by
  cases h with | cons r t => cases t; exact ⟨_, rfl, r⟩
theorem RepL.two {H : Hp} {d e : D} {vs : List V} (h : RepL K H [d, e] vs) : ∃ v u, vs = [v, u] ∧ Rep K H d v ∧ Rep K H e u := by
  cases h with | cons r t => obtain ⟨u, rfl, s⟩ := t.one; exact ⟨_, u, rfl, r, s⟩
/-- + of texts -/
noncomputable def oAddS : O2 := fun x y C Q => ∃ i j, x = .str i ∧ y = .str j ∧ i.length + j.length ≤ sizeLine ∧ Q (.str (i ++ j)) C
theorem lk_addS : Lk2 K cl (fun x y H Q => ∃ i j, x = .str i ∧ y = .str j ∧ i.length + j.length ≤ sizeLine ∧ Q (.str (i ++ j)) H) oAddS := fun H C d e v u Q Qc rd re R ⟨i, j, h1, h2, p, q⟩ hq => by
  subst h1; subst h2
  cases rd; cases re
  exact ⟨i, j, rfl, rfl, p, hq.now q (.str _) R⟩
/-- + of lists that may change -/
noncomputable def oCat : O2 := fun x y C Q => ∃ a b xs ys, x = .ref a ∧ y = .ref b ∧ C a = some (.lst xs) ∧ C b = some (.lst ys) ∧ xs.length + ys.length ≤ sizeLine ∧ ∀ p, C p = none → Q (.ref p) (cup C p (.lst (xs ++ ys)))
theorem lk_cat : Lk2 K cl rCat oCat := fun H C d e v u Q Qc rd re R ⟨a, b, xs, ys, h1, h2, ha, hb, p, q⟩ hq => by
  subst h1; subst h2
  cases rd; cases re
  obtain ⟨vs, e1, r1⟩ := R a _ ha
  obtain ⟨us, e2, r2⟩ := R b _ hb
  exact ⟨a, b, vs, us, rfl, rfl, e1, e2, by rw [← r1.length, ← r2.length]; exact p, fun p hp => hq.lst (r1.append r2) R hp (q p (free_of R hp))⟩
/-- + of tuples -/
noncomputable def oCatT : O2 := fun x y C Q => ∃ xs ys, x = .tup xs ∧ y = .tup ys ∧ xs.length + ys.length ≤ sizeLine ∧ Q (.tup (xs ++ ys)) C
theorem lk_catT : Lk2 K cl (rCatA K) oCatT := fun H C d e v u Q Qc rd re R ⟨xs, ys, h1, h2, p, q⟩ hq => by
  subst h1; subst h2
  cases rd with
  | tup s1 t1 =>
  cases re with
  | tup s2 t2 =>
    refine ⟨_, _, _, _, rfl, rfl, s1, s2, by rw [← t1.length, ← t2.length]; exact p, fun z => ?_, fun z1 z2 => ?_, fun z1 z2 p hp => hq.tup q (t1.append t2) R hp⟩
    · subst z
      cases t1
      exact hq.now q (.tup s2 t2) R
    · subst z2
      cases t2
      rw [List.append_nil] at q
      exact hq.now q (.tup s1 t1) R
/-- items -/
noncomputable def oIx : O2 := fun x y C Q => ∃ ds i d, SqC C x ds ∧ y = .int i ∧ atI ds i = some d ∧ Q d C
theorem RepL.atI {H : Hp} {ds : List D} {vs : List V} {i : Int} {d : D} (h : RepL K H ds vs) (e : atI ds i = some d) : ∃ v, L2.atI vs i = some v ∧ Rep K H d v := by
  unfold L2.atI at e ⊢
  rw [← h.length]
  cases hb : ixN ds.length i with
  | none => rw [hb] at e; cases e
  | some j => rw [hb] at e; exact h.get e
theorem lk_ix : Lk2 K cl (fun x y H Q => rIxL K x y H Q ∨ rIxT K x y H Q) oIx := fun H C d e v u Q Qc rd re R ⟨ds, i, z, h1, h2, h3, q⟩ hq => by
  subst h2
  cases re
  obtain ⟨p, vs, rfl, h, r⟩ := R.sq h1 rd
  obtain ⟨w, e1, r1⟩ := r.atI h3
  rcases h with h | h
  · exact .inl ⟨p, vs, i, w, rfl, rfl, h, e1, hq.now q r1 R⟩
  · exact .inr ⟨p, vs, i, w, rfl, rfl, h, e1, hq.now q r1 R⟩
noncomputable def oIxS : O2 := fun x y C Q => ∃ z i c, x = .str z ∧ y = .int i ∧ z.length ≤ sizeLine ∧ atI z.cps.toList i = some c ∧ Q (.str ⟨#[c]⟩) C
theorem lk_ixS : Lk2 K cl rIxS oIxS := fun H C d e v u Q Qc rd re R ⟨z, i, c, h1, h2, h3, h4, q⟩ hq => by
  subst h1; subst h2
  cases rd; cases re
  exact ⟨z, i, c, rfl, rfl, h3, h4, hq.now q (.str _) R⟩
noncomputable def keyD : D → Option Key
  | .int i => some (.inl i)
  | .str x => some (.inr x)
  | _ => none
noncomputable def valC (kvs : List (Key × D)) (k : Key) : Option D := (kvs.find? fun kv => decide (kv.1 = k)).map (·.2)
noncomputable def putC (kvs : List (Key × D)) (k : Key) (v : D) : List (Key × D) := if (kvs.any fun kv => decide (kv.1 = k)) = true then kvs.map (fun kv => if kv.1 = k then (kv.1, v) else kv) else kvs ++ [(k, v)]
theorem keyD_rep {H : Hp} {d : D} {v : V} {k : Key} (h : keyD d = some k) (r : Rep K H d v) : v = kV k := by
  cases r <;> simp [keyD] at h <;> subst h <;> rfl
theorem RepF.val {H : Hp} {kvs : List (Key × D)} {vs : List (Key × V)} (h : RepF K H kvs vs) (k : Key) : (∀ d, valC kvs k = some d → ∃ v, valV vs k = some v ∧ Rep K H d v) ∧ (valC kvs k = none → valV vs k = none) := by
  unfold valC valV
  induction h with
  | nil => exact ⟨fun d e => by simp at e, fun _ => rfl⟩
  | @cons k' d' v' ds vs r t ih =>
    by_cases hk : k' = k
    · subst hk
      simp only [List.find?_cons, decide_true, Option.map_some]
      exact ⟨fun d e => ⟨v', rfl, by cases e; exact r⟩, fun e => nomatch e⟩
    · simp only [List.find?_cons, decide_eq_false hk]
      exact ih
noncomputable def oGet : O2 := fun x y C Q => ∃ a kvs k d, x = .ref a ∧ C a = some (.dic kvs) ∧ keyD y = some k ∧ valC kvs k = some d ∧ Q d C
noncomputable def rGetV : R2 := fun x y H Q => ∃ a v, x = .ref a ∧ DGet H a y (some v) ∧ Q v H
theorem lk_get : Lk2 K cl rGetV oGet := fun H C d e v u Q Qc rd re R ⟨a, kvs, k, z, h1, h2, h3, h4, q⟩ hq => by
  subst h1
  cases rd
  obtain ⟨vs, e1, r1⟩ := R a _ h2
  obtain ⟨w, e2, r2⟩ := (r1.val k).1 z h4
  have e3 := keyD_rep h3 re
  subst e3
  exact ⟨a, w, rfl, by rw [← e2]; exact DGet.k e1, hq.now q r2 R⟩
theorem _root_.L2.ix_dict {X : Cx} (hu : X.A.units + 1 < cLine) : IxR X rGetV := by
  intro value slice pins s σ H x y v u Q I rx ry h hs
  obtain ⟨a, w, rfl, g, q⟩ := h
  cases rx
  exact PyProof.Rows.tail_any (dict_typeIs I g) PySem.F.slot_dict_getitem.lookup (d_getItem hu I g ry fun w' s' I' r' => ⟨w, H, I', r', q⟩) hs
noncomputable def oLen : OL := fun xs C Q => ∃ x, xs = [x] ∧ ((∃ ds, SqC C x ds ∧ Q (.int ds.length) C) ∨ (∃ z, x = .str z ∧ z.length ≤ sizeLine ∧ Q (.int z.length) C))
theorem lk_len : LkL K cl (fun xs H Q => (∃ p ys, xs = [.ref p] ∧ (SqL K H p ys ∨ SqT K H p ys) ∧ Q (.int ys.length) H) ∨ (∃ z, xs = [.str z] ∧ z.length ≤ sizeLine ∧ Q (.int z.length) H)) oLen := fun H C ds vs Q Qc rs R ⟨x, h1, h2⟩ hq => by
  subst h1
  obtain ⟨v, rfl, r⟩ := rs.one
  rcases h2 with ⟨ds, h, q⟩ | ⟨z, rfl, h, q⟩
  · obtain ⟨p, vs, rfl, h, rr⟩ := R.sq h r
    exact .inl ⟨p, vs, rfl, h, by rw [← rr.length]; exact hq.now q (.int _) R⟩
  · cases r
    exact .inr ⟨z, rfl, h, hq.now q (.int _) R⟩
/-- int(i), int(flag) -/
noncomputable def oInt : OL := fun xs C Q => (∃ i, xs = [.int i] ∧ Q (.int i) C) ∨ ∃ k, xs = [.bl k] ∧ Q (.int (if k then 1 else 0)) C
theorem lk_int : LkL K cl (fun xs H Q => (∃ i, xs = [.int i] ∧ Q (.int i) H) ∨ ∃ k, xs = [.bl k] ∧ Q (.int (if k then 1 else 0)) H) oInt := fun H C ds vs Q Qc rs R h hq => by
  rcases h with ⟨i, rfl, q⟩ | ⟨k, rfl, q⟩
  · obtain ⟨v, rfl, r⟩ := rs.one
    cases r
    exact .inl ⟨i, rfl, hq.now q (.int _) R⟩
  · obtain ⟨v, rfl, r⟩ := rs.one
    cases r
    exact .inr ⟨k, rfl, hq.now q (.int _) R⟩
/-- list(a list or tuple) -/
noncomputable def oList : OL := fun xs C Q => ∃ x ds, xs = [x] ∧ SqC C x ds ∧ ∀ p, C p = none → Q (.ref p) (cup C p (.lst ds))
theorem lk_list : LkL K cl (fun xs H Q => ∃ p ys, xs = [.ref p] ∧ (SqL K H p ys ∨ SqT K H p ys) ∧ ∀ l, H l = none → Q (.ref l) (upd H l (.lst ys))) oList := fun H C ds vs Q Qc rs R ⟨x, es, h1, h2, q⟩ hq => by
  subst h1
  obtain ⟨v, rfl, r⟩ := rs.one
  obtain ⟨p, us, rfl, h, rr⟩ := R.sq h2 r
  exact ⟨p, us, rfl, h, fun l hl => hq.lst rr R hl (q l (free_of R hl))⟩
/-- tuple(a list or tuple) -/
noncomputable def oTuple : OL := fun xs C Q => ∃ x ds, xs = [x] ∧ SqC C x ds ∧ Q (.tup ds) C
theorem lk_tuple : LkL K cl (fun xs H Q => ∃ p ys, xs = [.ref p] ∧ ((SqL K H p ys ∧ ∀ l, H l = none → Q (.ref l) (upd H l (.tup ys))) ∨ (SqT K H p ys ∧ Q (.ref p) H))) oTuple := fun H C ds vs Q Qc rs R ⟨x, es, h1, h2, q⟩ hq => by
  subst h1
  obtain ⟨v, rfl, r⟩ := rs.one
  obtain ⟨p, us, rfl, h, rr⟩ := R.sq h2 r
  refine ⟨p, us, rfl, ?_⟩
  rcases h with h | h
  · exact .inl ⟨h, fun l hl => hq.tup q rr R hl⟩
  · exact .inr ⟨h, hq.now q (.tup h rr) R⟩
/-- all, any of a list of bools -/
noncomputable def oAll (f : List Bool → D) : OL := fun xs C Q => ∃ (p : Addr) (bs : List Bool), xs = [.ref p] ∧ LsC C p (bs.map D.bl) ∧ Q (f bs) C
theorem RepL.bls {H : Hp} : ∀ {bs : List Bool} {vs : List V}, RepL K H (bs.map D.bl) vs → vs = bs.map V.bl
  | [], _, .nil => rfl
  | b :: bs, _, .cons r t => by cases r; rw [RepL.bls t]; rfl
theorem RepL.ints {H : Hp} : ∀ {bs : List Int} {vs : List V}, RepL K H (bs.map D.int) vs → vs = bs.map V.int
  | [], _, .nil => rfl
  | b :: bs, _, .cons r t => by cases r; rw [RepL.ints t]; rfl
theorem RepL.strs {H : Hp} : ∀ {bs : List Str} {vs : List V}, RepL K H (bs.map D.str) vs → vs = bs.map V.str
  | [], _, .nil => rfl
  | b :: bs, _, .cons r t => by cases r; rw [RepL.strs t]; rfl
noncomputable def oMaxL : OL := fun xs C Q => ∃ (p : Addr) (ns : List Int) (m : Int), xs = [.ref p] ∧ LsC C p (ns.map D.int) ∧ 0 < ns.length ∧ m ∈ ns ∧ (∀ y, y ∈ ns → y ≤ m) ∧ Q (.int m) C
theorem lk_maxL : LkL K cl (rMax K) oMaxL := fun H C ds vs Q Qc rs R ⟨p, ns, m, h1, h2, h3, h4, h5, q⟩ hq => by
  subst h1
  obtain ⟨v, rfl, r⟩ := rs.one
  cases r
  obtain ⟨us, e1, r1⟩ := R.ls h2
  have e2 := r1.ints
  subst e2
  refine ⟨p, ns, rfl, e1, h3, fun m' hm' hle => ?_⟩
  have e3 : m' = m := Int.le_antisymm (h5 m' hm') (hle m h4)
  subst e3
  exact hq.now q (.int _) R
noncomputable def oMin2 : OL := fun xs C Q => ∃ i j, xs = [.int i, .int j] ∧ Q (.int (if j < i then j else i)) C
theorem lk_min2 : LkL K cl (fun xs H Q => ∃ i j, xs = [.int i, .int j] ∧ Q (.int (if j < i then j else i)) H) oMin2 := fun H C ds vs Q Qc rs R ⟨i, j, h1, q⟩ hq => by
  subst h1
  obtain ⟨v, u, rfl, r1, r2⟩ := rs.two
  cases r1; cases r2
  exact ⟨i, j, rfl, hq.now q (.int _) R⟩
noncomputable def oAbs : OL := fun xs C Q => ∃ i, xs = [.int i] ∧ Q (.int (if i < 0 then -i else i)) C
mutual
inductive Snap (C : CH) : D → PyData → Prop
  | non : Snap C .non .none
  | bl (b : Bool) : Snap C (.bl b) (.bool b)
  | int (i : Int) : Snap C (.int i) (.int i)
  | str (x : Str) : Snap C (.str x) (.str x)
  | tup {ds : List D} {ps : List PyData} : SnapL C ds ps → Snap C (.tup ds) (.tuple ps)
  | rls {ds : List D} {ps : List PyData} : SnapL C ds ps → Snap C (.rls ds) (.list ps)
  | lst {p : Addr} {ds : List D} {ps : List PyData} : LsC C p ds → SnapL C ds ps → Snap C (.ref p) (.list ps)
inductive SnapL (C : CH) : List D → List PyData → Prop
  | nil : SnapL C [] []
  | cons {d : D} {ds : List D} {p : PyData} {ps : List PyData} : Snap C d p → SnapL C ds ps → SnapL C (d :: ds) (p :: ps)
end
mutual
theorem Snap.dp {H : Hp} {C : CH} (R : Rel K cl H C) : ∀ {d : D} {p : PyData} {v : V}, Snap C d p → Rep K H d v → Dp K H v p
  | _, _, _, .non, .non => .non
  | _, _, _, .bl _, .bl _ => .bl _
  | _, _, _, .int _, .int _ => .int _
  | _, _, _, .str _, .str _ => .str _
  | _, _, _, .tup t, .tup s r => .tup s (SnapL.dp R t r)
  | _, _, _, .rls t, .rls s r => .lst s.sq (SnapL.dp R t r)
  | _, _, _, .lst h t, .ref _ => by
    obtain ⟨vs, h1, h2⟩ := R.ls h
    exact .lst h1 (SnapL.dp R t h2)
theorem SnapL.dp {H : Hp} {C : CH} (R : Rel K cl H C) : ∀ {d : List D} {p : List PyData} {v : List V}, SnapL C d p → RepL K H d v → DpAll K H v p
  | _, _, _, .nil, .nil => .nil
  | _, _, _, .cons a b, .cons r s => .cons (Snap.dp R a r) (SnapL.dp R b s)
end
/-- in, not in a list of anything -/
noncomputable def oInD (f : Bool → Bool) : O2 := fun x y C Q => ∃ a p ds ps, y = .ref a ∧ LsC C a ds ∧ Snap C x p ∧ SnapL C ds ps ∧ SeqAt.shaped p = true ∧ SeqAt.shaped (.list ps) = true ∧ Q (.bl (f (ps.any fun z => PyData.eqv z p))) C
theorem lk_inD : Lk2 K cl (rInD K) (oInD id) := fun H C d e v u Q Qc rd re R ⟨a, p, ds, ps, h1, h2, h3, h4, h5, h6, h7⟩ hq => by
  subst h1
  exact ⟨p, ps, h3.dp R rd, (Snap.lst h2 h4).dp R re, h5, h6, hq.now h7 (.bl _) R⟩
/-- in, not in a list or tuple of flat things -/
noncomputable def flatD : D → Bool
  | .non | .bl _ | .int _ | .str _ => true
  | _ => false
noncomputable def toV : D → V
  | .non => .non
  | .bl b => .bl b
  | .int i => .int i
  | .str x => .str x
  | _ => .non
theorem flat_rep {H : Hp} {d : D} {v : V} (r : Rep K H d v) (f : flatD d = true) : v = toV d ∧ flatV v = true := by
  cases r <;> first | exact ⟨rfl, rfl⟩ | (simp [flatD] at f)
theorem flat_reps {H : Hp} : ∀ {ds : List D} {vs : List V}, RepL K H ds vs → ds.all flatD = true → vs = ds.map toV ∧ vs.all flatV = true
  | _, _, .nil, _ => ⟨rfl, rfl⟩
  | _, _, .cons r t, f => by
    rw [List.all_cons, Bool.and_eq_true] at f
    obtain ⟨e1, f1⟩ := flat_rep r f.1
    obtain ⟨e2, f2⟩ := flat_reps t f.2
    refine ⟨by rw [e1, e2]; rfl, ?_⟩
    rw [List.all_cons, f1, f2]; rfl
noncomputable def oInF (f : Bool → Bool) : O2 := fun x y C Q => ∃ ds, SqC C y ds ∧ flatD x = true ∧ ds.all flatD = true ∧ Q (.bl (f (inV (toV x) (ds.map toV)))) C
theorem lk_inF : Lk2 K cl (rIn K false) (oInF id) := fun H C d e v u Q Qc rd re R ⟨ds, h1, h2, h3, q⟩ hq => by
  obtain ⟨p, vs, rfl, h, rr⟩ := R.sq h1 re
  obtain ⟨e1, f1⟩ := flat_rep rd h2
  obtain ⟨e2, f2⟩ := flat_reps rr h3
  exact ⟨p, vs, rfl, h, f1, f2, hq.now (by rw [e1, e2]; exact q) (.bl _) R⟩
theorem lk_notInF : Lk2 K cl (rIn K true) (oInF not) := fun H C d e v u Q Qc rd re R ⟨ds, h1, h2, h3, q⟩ hq => by
  obtain ⟨p, vs, rfl, h, rr⟩ := R.sq h1 re
  obtain ⟨e1, f1⟩ := flat_rep rd h2
  obtain ⟨e2, f2⟩ := flat_reps rr h3
  exact ⟨p, vs, rfl, h, f1, f2, hq.now (by rw [e1, e2]; exact q) (.bl _) R⟩
/-- one sign in a text -/
noncomputable def oInS (f : Bool → Bool) : O2 := fun x y C Q => ∃ (c : Nat) (z : Str), x = .str ⟨#[c]⟩ ∧ y = .str z ∧ Q (.bl (f (decide (c ∈ z.cps.toList)))) C
theorem lk_inS : Lk2 K cl (fun x y H Q => ∃ (c : Nat) (z : Str), x = .str ⟨#[c]⟩ ∧ y = .str z ∧ Q (.bl (decide (c ∈ z.cps.toList))) H) (oInS id) := fun H C d e v u Q Qc rd re R ⟨c, z, h1, h2, q⟩ hq => by
  subst h1; subst h2
  cases rd; cases re
  exact ⟨c, z, rfl, rfl, hq.now q (.bl _) R⟩
theorem lk_notInS : Lk2 K cl (fun x y H Q => ∃ (c : Nat) (z : Str), x = .str ⟨#[c]⟩ ∧ y = .str z ∧ Q (.bl (!decide (c ∈ z.cps.toList))) H) (oInS not) := fun H C d e v u Q Qc rd re R ⟨c, z, h1, h2, q⟩ hq => by
  subst h1; subst h2
  cases rd; cases re
  exact ⟨c, z, rfl, rfl, hq.now q (.bl _) R⟩
/-- is None, is not None -/
noncomputable def isNon : D → Bool
  | .non => true
  | _ => false
noncomputable def oIs (f : Bool → Bool) : O2 := fun x y C Q => y = .non ∧ Q (.bl (f (isNon x))) C
theorem isNon_rep {H : Hp} {d : D} {v : V} (r : Rep K H d v) : decide (v = .non) = isNon d := by cases r <;> rfl
theorem lk_is : Lk2 K cl (fun x y H Q => y = .non ∧ Q (.bl (decide (x = .non))) H) (oIs id) := fun H C d e v u Q Qc rd re R ⟨h, q⟩ hq => by
  subst h
  cases re
  exact ⟨rfl, hq.now (by rw [isNon_rep rd]; exact q) (.bl _) R⟩
theorem lk_isnot : Lk2 K cl (fun x y H Q => y = .non ∧ Q (.bl (!decide (x = .non))) H) (oIs not) := fun H C d e v u Q Qc rd re R ⟨h, q⟩ hq => by
  subst h
  cases re
  exact ⟨rfl, hq.now (by rw [isNon_rep rd]; exact q) (.bl _) R⟩
end
end L3
namespace L3
open PySem L2
section
variable {X : Cx} {cl : ClsT} {H0 : Hp} {C0 : CH} {e st : Expr} {s1 : Stmt} {rest : List Stmt} {ca : CTE} {ct : CTT} {c d : CTS} {pos : Pos}
noncomputable def sNext : CTS := fun D σ C => D.nx σ C
noncomputable def sSeq (c d : CTS) : CTS := fun D σ C => c { D with nx := d D } σ C
theorem EndS.seq {K : PySem.W.Frag} {H : Hp} {C : CH} {σ : St} {σc : Env3} {Dc : EndsC} {D : Ends} (hq : EndS K cl H C Dc D) (S : Keep H0 C0 H C) : EndS K cl H C { Dc with nx := d Dc } { D with nx := tS K cl H0 C0 d D } :=
  ⟨fun σc' C' σ' H' q r R k => ⟨σc', C', Dc, ⟨r, R, S.trans k⟩, q, hq.from_ k⟩, hq.rt, hq.bk, hq.ct⟩
theorem cpss_nil : CPSs X cl H0 C0 [] sNext := pss_nil.imp fun D σ H ⟨σc, C, Dc, S, h, hq⟩ => hq.nx _ _ _ _ h S.s S.r Keep.refl
theorem cpss_cons (h1 : CPS X cl H0 C0 s1 c) (h2 : CPSs X cl H0 C0 rest d) : CPSs X cl H0 C0 (s1 :: rest) (sSeq c d) :=
  (pss_cons h1 h2).imp fun D σ H ⟨σc, C, Dc, S, h, hq⟩ => ⟨σc, C, _, S, h, hq.seq (σ := σ) (σc := σc) S.f⟩
noncomputable def sBreak : CTS := fun D σ C => D.bk σ C
noncomputable def sCont : CTS := fun D σ C => D.ct σ C
theorem cps_pass : CPS X cl H0 C0 (.Pass pos) sNext := ps_pass.imp fun D σ H ⟨σc, C, Dc, S, h, hq⟩ => hq.nx _ _ _ _ h S.s S.r Keep.refl
theorem cps_cont : CPS X cl H0 C0 (.Continue pos) sCont := ps_continue.imp fun D σ H ⟨σc, C, Dc, S, h, hq⟩ => hq.ct _ _ _ _ h S.s S.r Keep.refl
noncomputable def sDrop (a : CTE) : CTS := fun D σ C => a σ C fun _ C1 => D.nx σ C1
theorem cps_expr (he : CPE X cl H0 C0 e ca) (hs : swapsWith e none pos.line X.env = pure false) : CPS X cl H0 C0 (.Expr e pos) (sDrop ca) :=
  (ps_expr he hs).imp fun D σ H ⟨σc, C, Dc, S, h, hq⟩ => ⟨σc, C, _, S, h, fun d C1 v H1 h1 rv R1 k1 => hq.nx _ _ _ _ h1 (S.s.keep S.r k1) R1 k1⟩
noncomputable def sRet (a : CTE) : CTS := fun D σ C => a σ C D.rt
theorem cps_ret (he : CPE X cl H0 C0 e ca) : CPS X cl H0 C0 (.Return (some e) pos) (sRet ca) :=
  (ps_ret he).imp fun D σ H ⟨σc, C, Dc, S, h, hq⟩ => ⟨σc, C, _, S, h, hq.rt⟩
noncomputable def sRetN : CTS := fun D _ C => D.rt .non C
noncomputable def sIf (t : CTT) (c d : CTS) : CTS := fun D σ C => t σ C fun b C1 => if b = true then c D σ C1 else d D σ C1
theorem cps_if {a b : List Stmt} (ht : CPT X cl H0 C0 e ct) (ha : CPSs X cl H0 C0 a c) (hb : CPSs X cl H0 C0 b d) : CPS X cl H0 C0 (.If e a b pos) (sIf ct c d) :=
  (ps_if ht ha hb).imp fun D σ H ⟨σc, C, Dc, S, h, hq⟩ => ⟨σc, C, _, S, h, fun z C1 H1 h1 R1 k1 => by
    cases z with
    | true => exact iteT ⟨σc, C1, Dc, S.step k1 R1, h1, hq.from_ k1⟩
    | false => exact iteF ⟨σc, C1, Dc, S.step k1 R1, h1, hq.from_ k1⟩⟩
noncomputable def sNever : CTS := fun _ _ _ => False
theorem cps_never : CPS X cl H0 C0 s1 sNever := ps_never.imp fun D σ H ⟨σc, C, Dc, S, h, hq⟩ => h
end
noncomputable abbrev CTG := D → Env3 → CH → (Env3 → CH → Prop) → Prop
noncomputable def tG (K : PySem.W.Frag) (cl : ClsT) (g : CTG) : TG := fun v σ H Q => ∃ d σc C Qc, Rep K H d v ∧ RepS K H σc σ ∧ Rel K cl H C ∧ g d σc C Qc ∧ EndN K cl H C Qc Q
theorem _root_.L2.PG.imp {X : Cx} {e : Expr} {t t' : TG} (h : PG X e t) (i : ∀ v σ H Q, t' v σ H Q → t v σ H Q) : PG X e t' := ⟨fun pins s σ H v u Q I r q => h.run pins s σ H v u Q I r (i _ _ _ _ q)⟩
theorem _root_.L2.PGs.imp {X : Cx} {e : List Expr} {t t' : TGs} (h : PGs X e t) (i : ∀ v σ H Q, t' v σ H Q → t v σ H Q) : PGs X e t' := ⟨fun pins s σ H v u Q I r q => h.run pins s σ H v u Q I r (i _ _ _ _ q)⟩
noncomputable def CPG (X : Cx) (cl : ClsT) (e : Expr) (g : CTG) : Prop := PG X e (tG X.K cl g)
section
variable {X : Cx} {cl : ClsT} {H0 : Hp} {C0 : CH} {pos : Pos}
/-- target = value -/
noncomputable def sAsg (a : CTE) (g : CTG) : CTS := fun D σ C => a σ C fun d C1 => g d σ C1 D.nx
theorem tAsg_of {ca : CTE} {g : CTG} : ∀ D σ H, tS X.K cl H0 C0 (sAsg ca g) D σ H → tAsg (tE X.K cl H0 C0 ca) (tG X.K cl g) D σ H := fun D σ H ⟨σc, C, Dc, S, h, hq⟩ =>
  ⟨σc, C, _, S, h, fun d C1 v H1 h1 rv R1 k1 => ⟨d, σc, C1, _, rv, S.s.keep S.r k1, R1, h1, hq.nx.from_ k1⟩⟩
theorem cps_asg {tg e : Expr} {ca : CTE} {g : CTG} (he : CPE X cl H0 C0 e ca) (hg : CPG X cl tg g) (hs : swapsWithSole [tg] e pos.line X.env = pure false) (hw : swappedStores [tg] e X.env = pure none)
    (h1 : (assignEach [tg] X.env).map (·.2) = [assign tg X.env]) : CPS X cl H0 C0 (.Assign [tg] e pos) (sAsg ca g) := (ps_asg he hg hs hw h1).imp tAsg_of
/-- a, b = x, y with plain local names -/
noncomputable def sPar (i j : Nat) (a : CTA) : CTS := fun D σ C => a σ C fun ds C1 => ∃ d e, ds = [d, e] ∧ D.nx ((σ.set i (some d)).set j (some e)) C1
theorem cps_par {i j : Nat} {x y : Str} {a b : Expr} {cs : CTA} {px py pt : Pos} {kt k2 pt2} (hc : X.calm = true) (hN : X.N.Nodup) (hi : X.N[i]? = some x) (hj : X.N[j]? = some y) (hij : i ≠ j)
    (hx : X.env.scope.names.lookup x = some .local) (hy : X.env.scope.names.lookup y = some .local) (ha : CPA X cl H0 C0 [a, b] cs)
    (hw : swappedStores [.Tuple [.Name x px, .Name y py] kt pt] (.Tuple [a, b] k2 pt2) X.env = pure (some [x, y]))
    (hs : swapsWithSole [.Tuple [.Name x px, .Name y py] kt pt] (.Tuple [a, b] k2 pt2) pos.line X.env = pure false) :
    CPS X cl H0 C0 (.Assign [.Tuple [.Name x px, .Name y py] kt pt] (.Tuple [a, b] k2 pt2) pos) (sPar i j cs) :=
  (ps_par hc hN hi hj hij hx hy ha hw hs).imp fun D σ H ⟨σc, C, Dc, S, h, hq⟩ => ⟨σc, C, _, S, h, fun ds C1 vs H1 ⟨d, e, h1, h2⟩ rs R1 k1 => by
    subst h1
    obtain ⟨v, u, rfl, r1, r2⟩ := rs.two
    exact ⟨v, u, rfl, hq.nx _ _ _ _ h2 (((S.s.keep S.r k1).set r1 i).set r2 j) R1 k1⟩⟩
/-- o[i] = v -/
noncomputable abbrev O3 := D → D → D → CH → (CH → Prop) → Prop
noncomputable def LkSet (K : PySem.W.Frag) (cl : ClsT) (r : TSet) (o : O3) : Prop := ∀ H C d e z v u w Q Qc, Rep K H d v → Rep K H e u → Rep K H z w → Rel K cl H C → o d e z C Qc → (∀ C' H', Qc C' → Rel K cl H' C' → Keep H C H' C' → Q H') → r v u w H Q
noncomputable def sSet (a o i : CTE) (f : O3) : CTS := fun D σ C => a σ C fun z C1 => o σ C1 fun d C2 => i σ C2 fun e C3 => f d e z C3 fun C4 => D.nx σ C4
theorem cps_sub {o i e : Expr} {co ci ca : CTE} {r : TSet} {f : O3} {pos' : Pos} (ho : CPE X cl H0 C0 o co) (hi : CPE X cl H0 C0 i ci) (he : CPE X cl H0 C0 e ca) (hset : PSet X r) (l : LkSet X.K cl r f)
    (ha : ∀ v, assign (.Subscript o i pos') X.env v = (do
      let ov ← holding [v] (eval o X.env)
      let iv ← holding [v, ov] (eval i X.env)
      standAt pos'
      holding [v, ov, iv] (setItem ov iv v)
      release [v, ov, iv] []))
    (hs : swapsWithSole [.Subscript o i pos'] e pos.line X.env = pure false) (hw : swappedStores [.Subscript o i pos'] e X.env = pure none)
    (h1 : (assignEach [.Subscript o i pos'] X.env).map (·.2) = [assign (.Subscript o i pos') X.env]) : CPS X cl H0 C0 (.Assign [.Subscript o i pos'] e pos) (sSet ca co ci f) :=
  (ps_asg he (pg_sub ho hi hset ha) hs hw h1).imp fun D σ H ⟨σc, C, Dc, S, h, hq⟩ =>
    ⟨σc, C, _, S, h, fun z C1 w H1 h1 rz R1 k1 => ⟨σc, C1, _, S.step k1 R1, h1, fun d C2 v H2 h2 rd R2 k2 => ⟨σc, C2, _, (S.step k1 R1).step k2 R2, h2, fun e C3 u H3 h3 re R3 k3 =>
      l H3 C3 d e z v u w _ _ (rd.keep R2 k3) re ((rz.keep R1 k2).keep R2 k3) R3 h3 fun C4 H4 h4 R4 k4 => hq.nx _ _ _ _ h4 ((((S.step k1 R1).step k2 R2).step k3 R3).step k4 R4).s R4 (((k1.trans k2).trans k3).trans k4)⟩⟩⟩
noncomputable def oSetL : O3 := fun x y z C Q => ∃ p ds i j, x = .ref p ∧ y = .int i ∧ C p = some (.lst ds) ∧ ixN ds.length i = some j ∧ Q (cup C p (.lst (ds.set j z)))
theorem lk_setL {K : PySem.W.Frag} : LkSet K cl rSetL oSetL := fun H C d e z v u w Q Qc rd re rz R ⟨p, ds, i, j, h1, h2, h3, h4, q⟩ hq => by
  subst h1; subst h2
  cases rd; cases re
  obtain ⟨vs, e1, r1⟩ := R p _ h3
  exact ⟨p, vs, i, j, rfl, rfl, e1, by rw [← r1.length]; exact h4, hq _ _ q (R.wlst h3 e1 (r1.set rz j)) (Keep.write h3 _ _)⟩
end
section
variable {K : PySem.W.Frag} {cl : ClsT} {H : Hp} {C : CH}
theorem RepF.put {kvs : List (Key × D)} {vs : List (Key × V)} (h : RepF K H kvs vs) (k : Key) {d : D} {v : V} (r : Rep K H d v) : RepF K H (putC kvs k d) (putK vs k v) := by
  have e : (vs.any fun kv => decide (kv.1 = k)) = (kvs.any fun kv => decide (kv.1 = k)) := by
    induction h with
    | nil => rfl
    | cons r' t ih => rw [List.any_cons, List.any_cons, ih]
  unfold putC putK
  rw [e]
  split
  · clear e
    rename_i hc
    clear hc
    induction h with
    | nil => exact .nil
    | @cons k' d' v' ds' vs' r' t ih =>
      rw [List.map_cons, List.map_cons]
      by_cases hk : k' = k
      · rw [if_pos hk, if_pos hk]; exact .cons r ih
      · rw [if_neg hk, if_neg hk]; exact .cons r' ih
  · clear e
    rename_i hc
    clear hc
    induction h with
    | nil => exact .cons r .nil
    | cons r' t ih => exact .cons r' ih
noncomputable def oSetD : O3 := fun x y z C Q => ∃ p kvs k, x = .ref p ∧ C p = some (.dic kvs) ∧ keyD y = some k ∧ kvs.length < sizeLine ∧ Q (cup C p (.dic (putC kvs k z)))
theorem lk_setD : LkSet K cl rSetD oSetD := fun H C d e z v u w Q Qc rd re rz R ⟨p, kvs, k, h1, h2, h3, h4, q⟩ hq => by
  subst h1
  cases rd
  obtain ⟨vs, e1, r1⟩ := R p _ h2
  have e3 := keyD_rep h3 re
  subst e3
  refine ⟨p, _, rfl, DPut.k e1 (by rw [← r1.length]; exact h4), hq _ _ q (R.write h2 e1 (fun xs h => by rcases h with h | ⟨z, h⟩ <;> (rw [e1] at h; cases h)) ⟨_, upd_same, (r1.put k rz).keep R (Keep.write h2 _ (.dic (putC kvs k z)))⟩) (Keep.write h2 _ _)⟩
end
/-- what an iterable yields: the items from turn 0, while the guard stands -/
noncomputable abbrev CTI := Env3 → CH → (List D → (CH → Prop) → CH → Prop) → Prop
/-- the iterator J yields ds while the guard stands -/
structure ItOk (K : PySem.W.Frag) (cl : ClsT) (H0 : Hp) (C0 : CH) (J : It) (ds : List D) (G : CH → Prop) : Prop where
  go : ∀ (i : Nat) (H : Hp) (C : CH), Keep H0 C0 H C → Rel K cl H C → G C → i < ds.length → J.go i H
  yld : ∀ (i : Nat) (H : Hp) (C : CH) (x : V) (H' : Hp), Keep H0 C0 H C → Rel K cl H C → G C → J.yld i H x H' → ∀ d, ds[i]? = some d → Rep K H' d x ∧ Rel K cl H' C ∧ Keep H C H' C
  stop : ∀ (i : Nat) (H : Hp) (C : CH), Keep H0 C0 H C → Rel K cl H C → G C → ds.length ≤ i → J.stop i H
noncomputable def tI (K : PySem.W.Frag) (cl : ClsT) (H0 : Hp) (C0 : CH) (c : CTI) : TI := fun σ H R => ∃ σc C Qc, S3 K cl H0 C0 σ H σc C ∧ c σc C Qc ∧ ∀ ds G C1 H1 J, Qc ds G C1 → Rel K cl H1 C1 → Keep H C H1 C1 → ItOk K cl H1 C1 J ds G → R J H1
theorem _root_.L2.PI.imp {X : Cx} {tg e : Expr} {t t' : TI} (h : PI X tg e t) (i : ∀ σ H Q, t' σ H Q → t σ H Q) : PI X tg e t' := ⟨fun pins s σ H Q I q => h.run pins s σ H Q I (i _ _ _ q)⟩
noncomputable def CPI (X : Cx) (cl : ClsT) (H0 : Hp) (C0 : CH) (tg e : Expr) (c : CTI) : Prop := PI X tg e (tI X.K cl H0 C0 c)
/-- for: one turn after another -/
noncomputable def forL (g : CTG) (b : CTS) (G : CH → Prop) (E : EndsC) : List D → Env3 → CH → Prop
  | [], σ, C => G C ∧ E.nx σ C
  | d :: r, σ, C => G C ∧ g d σ C fun σ1 C1 => b { E with nx := forL g b G E r, ct := forL g b G E r, bk := E.nx } σ1 C1
noncomputable def sFor (it : CTI) (g : CTG) (b : CTS) : CTS := fun D σ C => it σ C fun ds G C1 => forL g b G D ds σ C1
section
variable {X : Cx} {cl : ClsT} {H0 : Hp} {C0 : CH} {pos : Pos}
theorem cps_for {tg iter : Expr} {body : List Stmt} {it : CTI} {g : CTG} {b : CTS} (hp : PassesOwn (model X.prog X.w) X.A X.env X.xe) (hc : X.calm = true) (hi : CPI X cl H0 C0 tg iter it) (hg : CPG X cl tg g) (hb : CPSs X cl H0 C0 body b)
    (hs : ∀ x, foldedSetIterable iter X.env x = pure x) : CPS X cl H0 C0 (.For tg iter body [] pos) (sFor it g b) :=
  (ps_for hp hc hi hg hb hs).imp fun D σ H ⟨σc, C, Dc, S, h, hq⟩ => ⟨σc, C, _, S, h, fun ds G C1 H1 J h1 R1 k1 ok => by
    refine ⟨fun i m σ' H' => m = ds.length - i ∧ i ≤ ds.length ∧ ∃ σc' C', RepS X.K H' σc' σ' ∧ Rel X.K cl H' C' ∧ Keep H1 C1 H' C' ∧ forL g b G Dc (ds.drop i) σc' C', ⟨ds.length, by simp, Nat.zero_le _, σc, C1, S.s.keep S.r k1, R1, Keep.refl, h1⟩, ?_⟩
    rintro i m σ' H' ⟨rfl, hi, σc', C', s', R', k', hl⟩
    by_cases hlt : i < ds.length
    · rw [List.drop_eq_getElem_cons hlt] at hl
      obtain ⟨hG, hl⟩ := hl
      refine .inr ⟨ok.go i H' C' k' R' hG hlt, fun σ2 H2 => ∃ σc2 C2, RepS X.K H2 σc2 σ2 ∧ Rel X.K cl H2 C2 ∧ Keep H1 C1 H2 C2 ∧ forL g b G Dc (ds.drop (i + 1)) σc2 C2, fun σ2 H2 ⟨σc2, C2, s2, R2, k2, l2⟩ => ⟨ds.length - (i + 1), by omega, rfl, hlt, σc2, C2, s2, R2, k2, l2⟩, fun x H2 hy => ?_⟩
      obtain ⟨rx, R2, k2⟩ := ok.yld i H' C' x H2 k' R' hG hy _ (List.getElem?_eq_getElem hlt)
      refine ⟨_, σc', C', _, rx, s'.keep R' k2, R2, hl, fun σc3 C3 σ3 H3 h3 s3 R3 k3 => ?_⟩
      have kk : Keep H C H3 C3 := ((k1.trans k').trans k2).trans k3
      refine ⟨σc3, C3, _, ⟨s3, R3, S.f.trans kk⟩, h3, ?_⟩
      have again : EndN X.K cl H3 C3 (forL g b G Dc (ds.drop (i + 1))) fun σ2 H2 => ∃ σc2 C2, RepS X.K H2 σc2 σ2 ∧ Rel X.K cl H2 C2 ∧ Keep H1 C1 H2 C2 ∧ forL g b G Dc (ds.drop (i + 1)) σc2 C2 :=
        fun σc4 C4 σ4 H4 h4 s4 R4 k4 => ⟨σc4, C4, s4, R4, ((k'.trans k2).trans k3).trans k4, h4⟩
      exact ⟨again, hq.rt.from_ kk, hq.nx.from_ kk, again⟩
    · have e : ds.drop i = [] := List.drop_eq_nil_of_le (by omega)
      rw [e] at hl
      exact .inl ⟨ok.stop i H' C' k' R' hl.1 (by omega), hq.nx _ _ _ _ hl.2 s' R' (k1.trans k')⟩⟩
/-- while: at most m turns -/
noncomputable def whileN (t : CTT) (b : CTS) (D : EndsC) : Nat → Env3 → CH → Prop
  | 0, _, _ => False
  | m + 1, σ, C => t σ C fun k C1 => if k = true then b { D with nx := whileN t b D m, ct := whileN t b D m, bk := D.nx } σ C1 else D.nx σ C1
noncomputable def sWhile (t : CTT) (b : CTS) : CTS := fun D σ C => ∃ m, whileN t b D m σ C
theorem cps_while {e : Expr} {body : List Stmt} {t : CTT} {b : CTS} (hp : PassesOwn (model X.prog X.w) X.A X.env X.xe) (ht : CPT X cl H0 C0 e t) (hb : CPSs X cl H0 C0 body b) : CPS X cl H0 C0 (.While e body [] pos) (sWhile t b) :=
  (ps_while hp ht hb).imp fun D σ H ⟨σc, C, Dc, S, ⟨m0, h⟩, hq⟩ => by
    refine ⟨fun m σ' H' => ∃ σc' C', RepS X.K H' σc' σ' ∧ Rel X.K cl H' C' ∧ Keep H C H' C' ∧ whileN t b Dc m σc' C', ⟨m0, σc, C, S.s, S.r, Keep.refl, h⟩, ?_⟩
    rintro m σ' H' ⟨σc', C', s', R', k', hl⟩
    cases m with
    | zero => exact hl.elim
    | succ m =>
      refine ⟨σc', C', _, ⟨s', R', S.f.trans k'⟩, hl, fun z C1 H1 h1 R1 k1 => ?_⟩
      have kk := k'.trans k1
      cases z with
      | true =>
        refine iteT ⟨fun σ2 H2 => ∃ σc2 C2, RepS X.K H2 σc2 σ2 ∧ Rel X.K cl H2 C2 ∧ Keep H C H2 C2 ∧ whileN t b Dc m σc2 C2, fun σ2 H2 h2 => ⟨m, Nat.lt_succ_self m, h2⟩, ?_⟩
        have again : EndN X.K cl H1 C1 (whileN t b Dc m) fun σ2 H2 => ∃ σc2 C2, RepS X.K H2 σc2 σ2 ∧ Rel X.K cl H2 C2 ∧ Keep H C H2 C2 ∧ whileN t b Dc m σc2 C2 :=
          fun σc4 C4 σ4 H4 h4 s4 R4 k4 => ⟨σc4, C4, s4, R4, kk.trans k4, h4⟩
        exact ⟨σc', C1, _, ⟨s'.keep R' k1, R1, S.f.trans kk⟩, h1, ⟨again, hq.rt.from_ kk, hq.nx.from_ kk, again⟩⟩
      | false => exact iteF (hq.nx _ _ _ _ h1 (s'.keep R' k1) R1 kk)
end
section
variable {X : Cx} {cl : ClsT} {H0 : Hp} {C0 : CH} {pos : Pos}
/-- a list (as it stands), a tuple -/
noncomputable def iSeq (a : CTE) : CTI := fun σ C R => a σ C fun d C1 => ∃ ds, ((d = .tup ds ∨ d = .rls ds) ∧ R ds (fun _ => True) C1) ∨ (∃ p, d = .ref p ∧ LsC C1 p ds ∧ R ds (fun C => LsC C p ds) C1)
theorem itOk_tup {K : PySem.W.Frag} {a : Addr} {ds : List D} {vs : List V} {H : Hp} {C : CH} (s : SqT K H a vs) (r : RepL K H ds vs) (R : Rel K cl H C) : ItOk K cl H C (Itt K a) ds (fun _ => True) where
  go := fun i H' C' k R' _ hi => by
    obtain ⟨v, e, _⟩ := r.get (List.getElem?_eq_getElem hi)
    exact ⟨vs, v, SqT.keep R k s, e⟩
  yld := fun i H' C' x H'' k R' _ ⟨e, y⟩ d hd => by
    subst e
    obtain ⟨v, e, rv⟩ := r.get hd
    have := y vs (SqT.keep R k s)
    rw [e] at this; cases this
    exact ⟨rv.keep R k, R', Keep.refl⟩
  stop := fun i H' C' k R' _ hi => ⟨vs, SqT.keep R k s, by rw [← r.length]; exact hi⟩
theorem itOk_lst' {K : PySem.W.Frag} {p : Addr} {ds : List D} {H : Hp} {C : CH} : ItOk K cl H C (Itl K p) ds (fun C => LsC C p ds) where
  go := fun i H' C' k R' hG hi => by
    obtain ⟨vs, s, r⟩ := R'.ls hG
    obtain ⟨v, e, _⟩ := r.get (List.getElem?_eq_getElem hi)
    exact ⟨vs, v, s, e⟩
  yld := fun i H' C' x H'' k R' hG ⟨e, y⟩ d hd => by
    subst e
    obtain ⟨vs, s, r⟩ := R'.ls hG
    obtain ⟨v, e, rv⟩ := r.get hd
    have := y vs s
    rw [e] at this; cases this
    exact ⟨rv, R', Keep.refl⟩
  stop := fun i H' C' k R' hG hi => by
    obtain ⟨vs, s, r⟩ := R'.ls hG
    exact ⟨vs, s, by rw [← r.length]; exact hi⟩
theorem itOk_rls {X : Cx} {pins : List (Addr × Obj)} {σ : St} {H : Hp} {C : CH} {s : Shared} {a : Addr} {ds : List D} {vs : List V} (I : Inv X pins σ H s) (q : RlS X.K H a vs) (r : RepL X.K H ds vs) (R : Rel X.K cl H C) : ItOk X.K cl H C (Itl X.K a) ds (fun _ => True) where
  go := fun i H' C' k R' _ hi => by
    obtain ⟨v, e, _⟩ := r.get (List.getElem?_eq_getElem hi)
    exact ⟨vs, v, (q.keep R k).sq, e⟩
  yld := fun i H' C' x H'' k R' _ ⟨e, y⟩ d hd => by
    subst e
    obtain ⟨v, e, rv⟩ := r.get hd
    have := y vs (q.keep R k).sq
    rw [e] at this; cases this
    exact ⟨rv.keep R k, R', Keep.refl⟩
  stop := fun i H' C' k R' _ hi => ⟨vs, (q.keep R k).sq, by rw [← r.length]; exact hi⟩
theorem _root_.L2.PI.or {X : Cx} {tg e : Expr} {te : TE} {a b : V → Hp → (It → Hp → Prop) → Prop} (h : PI X tg e (fun σ H R => te σ H fun x H1 => a x H1 R)) (h' : PI X tg e (fun σ H R => te σ H fun x H1 => b x H1 R))
    (he : PE X e te) (hv : ∀ (pins : List (Addr × Obj)) (s : Shared) (σ : St) (H : Hp) (x : V) (u : Value) (R : It → Hp → Prop), Inv X pins σ H s → RelV x u → (a x H R ∨ b x H R) → wpAny (model X.prog X.w) X.A (pyIter u) (PIE X pins σ tg R) X.xe s) :
    PI X tg e (fun σ H R => te σ H fun x H1 => a x H1 R ∨ b x H1 R) :=
  ⟨fun pins s σ H R I h => thn (he.run pins s σ H _ I h) fun u s1 ⟨x, H1, I1, r1, q1⟩ => hv pins s1 σ H1 x u R I1 r1 q1⟩
theorem iter_list {tg : Expr} {pins : List (Addr × Obj)} {s : Shared} {σ : St} {H : Hp} {R : It → Hp → Prop} {a : Addr} {xs : List V} (I : Inv X pins σ H s) (hq : SqL X.K H a xs) (q : R (Itl X.K a) H) : wpAny (model X.prog X.w) X.A (pyIter (.ref a)) (PIE X pins σ tg R) X.xe s := by
  obtain ⟨its, rv, p, hz⟩ := I.list hq
  refine wpAny_pyIter_list p.isList ?_
  refine ⟨s.heap.objs.size, [s.heap.objs.size], _, _, H, rfl, I.kept (t' := s.toks) fun b o e => Heap.get?_push_of_some _ e, turn_list a _, ⟨_, Heap.get?_push_size _ rfl, rfl, rfl⟩, fun b hb => ?_, q⟩
  have e : b = s.heap.objs.size := by simpa using hb
  subst e
  exact I.fpOk (Nat.le_refl _) (I.hok.fresh (Nat.le_refl _))
theorem iter_tup {tg : Expr} {pins : List (Addr × Obj)} {s : Shared} {σ : St} {H : Hp} {R : It → Hp → Prop} {a : Addr} {xs : List V} (I : Inv X pins σ H s) (hq : SqT X.K H a xs) (q : R (Itt X.K a) H) : wpAny (model X.prog X.w) X.A (pyIter (.ref a)) (PIE X pins σ tg R) X.xe s := by
  obtain ⟨its, rv, p, hz⟩ := I.tuple hq
  refine wpAny_pyIter_tuple (show s.heap.IsTuple a its.toArray from p) ?_
  refine ⟨s.heap.objs.size, [s.heap.objs.size], _, _, H, rfl, I.kept (t' := s.toks) fun b o e => Heap.get?_push_of_some _ e, turn_tuple a _, ⟨_, Heap.get?_push_size _ rfl, rfl, rfl⟩, fun b hb => ?_, q⟩
  have e : b = s.heap.objs.size := by simpa using hb
  subst e
  exact I.fpOk (Nat.le_refl _) (I.hok.fresh (Nat.le_refl _))
theorem cpi_seq {tg e : Expr} {ca : CTE} (he : CPE X cl H0 C0 e ca) : CPI X cl H0 C0 tg e (iSeq ca) := ⟨fun pins s σ H R I ⟨σc, C, Qc, S, h, hq⟩ =>
  thn (he.run pins s σ H (fun v H1 => ∃ d C1 ds, Rep X.K H1 d v ∧ Rel X.K cl H1 C1 ∧ Keep H C H1 C1 ∧ (((d = .tup ds ∨ d = .rls ds) ∧ Qc ds (fun _ => True) C1) ∨ (∃ p, d = .ref p ∧ LsC C1 p ds ∧ Qc ds (fun C => LsC C p ds) C1))) I
    ⟨σc, C, _, S, h, fun d C1 v H1 ⟨ds, h1⟩ rv R1 k1 => ⟨d, C1, ds, rv, R1, k1, h1⟩⟩) fun u s1 ⟨v, H1, I1, r1, d, C1, ds, rv, R1, k1, h1⟩ => by
    rcases h1 with ⟨rfl | rfl, q⟩ | ⟨p, rfl, hl, q⟩
    · cases rv with
      | tup sq rr =>
        cases r1
        exact iter_tup I1 sq (hq _ _ _ _ _ q R1 k1 (itOk_tup sq rr R1))
    · cases rv with
      | rls sq rr =>
        cases r1
        exact iter_list I1 sq.sq (hq _ _ _ _ _ q R1 k1 (itOk_rls I1 sq rr R1))
    · cases rv
      cases r1
      obtain ⟨vs, sq, rr⟩ := R1.ls hl
      exact iter_list I1 sq (hq _ _ _ _ _ q R1 k1 itOk_lst')⟩
/-- a text, sign by sign -/
noncomputable def iTxt (a : CTE) : CTI := fun σ C R => a σ C fun d C1 => ∃ z, d = .str z ∧ R (z.cps.toList.map fun c => .str ⟨#[c]⟩) (fun _ => True) C1
theorem cpi_txt {tg e : Expr} {ca : CTE} (he : CPE X cl H0 C0 e ca) : CPI X cl H0 C0 tg e (iTxt ca) :=
  (pi_str he).imp fun σ H R ⟨σc, C, Qc, S, h, hq⟩ => ⟨σc, C, _, S, h, fun d C1 v H1 ⟨z, h1, q⟩ rv R1 k1 => by
    subst h1
    cases rv
    refine ⟨z, rfl, hq _ _ _ _ _ q R1 k1 ⟨fun i H' C' k R' _ hi => ?_, fun i H' C' x H'' k R' _ ⟨e, c, hc, hx⟩ d hd => ?_, fun i H' C' k R' _ hi => ?_⟩⟩
    · show i < z.cps.size
      simpa using hi
    · subst e; subst hx
      rw [List.getElem?_map, Array.getElem?_toList, hc] at hd
      cases hd
      exact ⟨.str _, R', Keep.refl⟩
    · show z.cps.size ≤ i
      simpa using hi⟩
/-- range -/
noncomputable def rngD (lo : Int) (n : Nat) : List D := (List.range n).map fun (i : Nat) => .int (lo + i)
noncomputable def iRg1 (a : CTA) : CTI := fun σ C R => a σ C fun ds C1 => ∃ j : Int, ds = [.int j] ∧ -(2 ^ 62) ≤ j ∧ j < 2 ^ 62 ∧ R (rngD 0 j.toNat) (fun _ => True) C1
theorem itOk_rng {K : PySem.W.Frag} {lo : Int} {n : Nat} {H : Hp} {C : CH} : ItOk K cl H C (Itr lo n) (rngD lo n) (fun _ => True) where
  go := fun i H' C' k R' _ hi => by
    show i < n
    simpa [rngD] using hi
  yld := fun i H' C' x H'' k R' _ ⟨e, y⟩ d hd => by
    subst e; subst y
    unfold rngD at hd
    rw [List.getElem?_map] at hd
    cases q : (List.range n)[i]? with
    | none => rw [q] at hd; cases hd
    | some j =>
      rw [q] at hd
      have hj : j = i := by
        obtain ⟨hl, e⟩ := List.getElem?_eq_some_iff.mp q
        rw [List.getElem_range] at e
        exact e.symm
      subst hj
      cases hd
      exact ⟨.int _, R', Keep.refl⟩
  stop := fun i H' C' k R' _ hi => by
    show n ≤ i
    simpa [rngD] using hi
theorem cpi_rg1 {tg a : Expr} {ca : CTA} {p pos : Pos} (hg : Gl X "range") (hm : X.mg "range" = none) (ha : CPA X cl H0 C0 [a] ca) (hs : starEach [a] X.env = [(false, eval a X.env)]) : CPI X cl H0 C0 tg (.Call (.Name "range" p) [a] [] pos) (iRg1 ca) :=
  (pi_range1 hg hm ha hs).imp fun σ H R ⟨σc, C, Qc, S, h, hq⟩ => ⟨σc, C, _, S, h, fun ds C1 vs H1 ⟨j, h1, h2, h3, q⟩ rs R1 k1 => by
    subst h1
    obtain ⟨v, rfl, r⟩ := rs.one
    cases r
    exact ⟨j, rfl, h2, h3, hq _ _ _ _ _ q R1 k1 itOk_rng⟩⟩
end
end L3
namespace L3
open PySem L2 PyProof.Rows
structure Room (k : Nat) (A : Around) : Prop where
  hd : A.handled = none
  dp : A.depth + k + 40 < recursionLimit
  un : A.units + 8 * k + 600 < cLine
theorem Room.mono {j k : Nat} {A : Around} (r : Room k A) (h : j ≤ k) : Room j A := ⟨r.hd, by have := r.dp; omega, by have := r.un; omega⟩
theorem Room.deeper {k : Nat} {A : Around} (r : Room (k + 1) A) (env : Env) : Room k (A.deeper env) :=
  ⟨r.hd, by have := r.dp; show A.depth + 1 + k + 40 < _; omega, by have := r.un; show A.units + 3 + 8 * k + 600 < _; omega⟩
theorem Room.make {k : Nat} {A : Around} (r : Room (k + 1) A) (C : Addr) (us : List Value) (kw : List (Str × Value)) : Room k (A.under (.builtin "type.__call__" ⟨.ref C :: us, kw⟩)) :=
  ⟨r.hd, by have := r.dp; rw [make_depth]; omega, by have := r.un; rw [make_units]; omega⟩
theorem Room.depth {k : Nat} {A : Around} (r : Room k A) : A.depth < recursionLimit := by have := r.dp; omega
theorem Room.units {k : Nat} {A : Around} (r : Room k A) : A.units + 64 < cLine := by have := r.un; omega
theorem hu_of {A : Around} {k : Nat} (r : Room k A) : A.units + 1 < cLine := by have := r.un; omega
section
variable {P : Program} {w : World} {K : PySem.W.Frag} {mg : Str → Option Value} {base : Heap} {CXx : CXT} {k : Nat} {f : Addr} {fd : FuncData} {ps : List Str} {sp : Sp}
structure FnOkG (P : Program) (w : World) (K : PySem.W.Frag) (mg : Str → Option Value) (base : Heap) (CXx : CXT) (k : Nat) (f : Addr) (fd : FuncData) (ps : List Str) (sp : Sp) : Prop where
  len : ∀ vs H Q E, sp vs H Q E → vs.length = ps.length
  run : ∀ (A : Around) (out : List Env) (s : Shared) (H : Hp) (as : Args) (us : List Value) (vs : List V) (Q : VK) (E : XK), Room k A → A.guards = some [] →
    Env0 P w K mg base A out s H → BindsTo s fd as (ps.zip us) → Vals vs us → sp vs H Q E → codeAny (model P w) A (.call (.ref f) as) (CR CXx out P w H s Q E) s
theorem FnOkG.imp {sp' : Sp} (F : FnOkG P w K mg base CXx k f fd ps sp) (h : ∀ vs H Q E, sp' vs H Q E → sp vs H Q E) : FnOkG P w K mg base CXx k f fd ps sp' :=
  ⟨fun _ _ _ _ q => F.len _ _ _ _ (h _ _ _ _ q), fun A out s H as us vs Q E hr hg e0 hb hv q => F.run A out s H as us vs Q E hr hg e0 hb hv (h _ _ _ _ q)⟩
/-- a def runs, its body told of the very state -/
theorem run_ofG {name qual : Str} {params : Arguments} {body : List Stmt} {scope : Scope} {dV kV doc pm cdv ct oc : Value} {an od : Option Addr} {osl : Array (Option Value)} {N : List Str}
    (lk : K.lookup f = some ⟨oc, od, .func (PySem.W.fnOf name qual params body scope dV kV doc pm an cdv ct), osl⟩) (hcd : PySem.W.codeIn K cdv qual = true) (S : FnScope N ps scope)
    {A : Around} {out : List Env} {s : Shared} {H : Hp} {as : Args} {us : List Value} {vs : List V} {Q : VK} {E : XK} (room : Room (k + 1) A) (e0 : Env0 P w K mg base A out s H) (bind : BindsTo s (PySem.W.fnOf name qual params body scope dV kV doc pm an cdv ct) as (ps.zip us)) (rv : Vals vs us) (len : vs.length = ps.length)
    (hb : Room k (A.deeper (envOfC qual scope s.heap.objs.size f cdv)) → ∃ t, PSs (cxOf CXx P w K mg base N qual scope f cdv A out s H E) body t ∧ t { nx := fun _ H' => Q .non H', rt := Q } (start N vs) H) :
    codeAny (model P w) A (.call (.ref f) as) (CR CXx out P w H s Q E) s := by
  have inK := e0.mod.kin.keeps fun b o q => (e0.bs b o q).1
  have noLim := e0.mod.nolimit.keeps fun b o q => (e0.bs b o q).1
  have kinds : ∀ y ∈ ps.zip us, scope.names.lookup y.1 = some .local ∨ (scope.names.lookup y.1 = some .cell ∧ ((cellsFrom (s.heap.objs.size + 1) scope.names []).lookup y.1).isSome = true) := by
    rintro ⟨n, v⟩ hy
    refine (S.par n (List.of_mem_zip hy).1).imp id fun q => ⟨q, ?_⟩
    exact PySem.W.cellsFrom_some _ _ _ (.inl q)
  refine codeAny_call_function room.depth (inK _ _ lk) rfl S.co S.gen rfl (PySem.W.codeRec_of inK hcd) (bind _ _ _ _ (wpAny_newFunctionEnv_cells S.kind kinds fun env he s1 x => ?_))
  subst he
  obtain ⟨t, ht, hq⟩ := hb (room.deeper _)
  refine ⟨noLim.keeps x.toInCall.keep, codeAny_func (wpAny_mono (ht.run [] s1 _ H _ (inv_start S room.hd e0 len rv x) hq) (fun fl s' hs => ?_) fun e s' hs => hs)⟩
  cases fl with
  | next =>
    obtain ⟨σ', H', J, q⟩ := hs
    exact ⟨V.non, H', J.os, J.bare, J.base, J.hok, rfl, q⟩
  | ret u =>
    obtain ⟨v, σ', H', J, rv', q⟩ := hs
    exact ⟨v, H', J.os, J.bare, J.base, J.hok, rv', q⟩
  | brk => exact hs.elim fun _ h => h.elim fun _ h => h.2.elim
  | cont => exact hs.elim fun _ h => h.elim fun _ h => h.2.elim
/-- the rule for a def, by its body -/
theorem fn_ofG {name qual : Str} {params : Arguments} {body : List Stmt} {scope : Scope} {dV kV doc pm cdv ct oc : Value} {an od : Option Addr} {osl : Array (Option Value)} {N : List Str}
    (lk : K.lookup f = some ⟨oc, od, .func (PySem.W.fnOf name qual params body scope dV kV doc pm an cdv ct), osl⟩) (hcd : PySem.W.codeIn K cdv qual = true) (S : FnScope N ps scope) (len : ∀ vs H Q E, sp vs H Q E → vs.length = ps.length)
    (hb : ∀ (A : Around) (out : List Env) (s : Shared) (H : Hp) (vs : List V) (Q : VK) (E : XK), Room k (A.deeper (envOfC qual scope s.heap.objs.size f cdv)) → A.guards = some [] → sp vs H Q E →
      ∃ t, PSs (cxOf CXx P w K mg base N qual scope f cdv A out s H E) body t ∧ t { nx := fun _ H' => Q .non H', rt := Q } (start N vs) H) :
    FnOkG P w K mg base CXx (k + 1) f (PySem.W.fnOf name qual params body scope dV kV doc pm an cdv ct) ps sp := ⟨len, fun A out s H as us vs Q E room hg e0 bind rv hsp => run_ofG lk hcd S room e0 bind rv (len _ _ _ _ hsp) fun hr => hb A out s H vs Q E hr hg hsp⟩
end
end L3
namespace L3
open PySem L2
noncomputable def notStar : Expr → Bool
  | .Starred .. => false
  | _ => true
theorem star_of {e : Expr} {es : List Expr} {env : Env} (h : notStar e = true) : starEach (e :: es) env = (false, eval e env) :: starEach es env := by
  cases e <;> first | rfl | cases h
theorem star_any {env : Env} {pos : Pos} : ∀ {es : List Expr}, es.all notStar = true → (backTo pos (starEach es env)).any (·.1) = false
  | [], _ => rfl
  | e :: es, h => by
    rw [List.all_cons, Bool.and_eq_true] at h
    rw [star_of h.1]
    show (false || (backTo pos (starEach es env)).any (·.1)) = false
    rw [star_any h.2]; rfl
/-- the keywords' names: all are written -/
noncomputable def kwNames : List Keyword → Option (List Str)
  | [] => some []
  | ⟨some n, _, _⟩ :: r => (kwNames r).map (n :: ·)
  | _ => none
theorem kw_ok {env : Env} {pos : Pos} : ∀ {kws : List Keyword} {ks : List Str}, kwNames kws = some ks → (backToKw pos (keywordEach kws env)).all (·.1.isSome) = true ∧ (backToKw pos (keywordEach kws env)).filterMap (·.1) = ks ∧ (backToKw pos (keywordEach kws env)).any (·.1.isNone) = false
  | [], _, h => by cases h; exact ⟨rfl, rfl, rfl⟩
  | ⟨none, _, _⟩ :: _, _, h => by cases h
  | ⟨some n, v, p⟩ :: r, ks, h => by
    obtain ⟨ks', h1, h2⟩ := Option.map_eq_some_iff.mp (show (kwNames r).map (n :: ·) = some ks from h)
    obtain ⟨a, b, c⟩ := kw_ok (env := env) (pos := pos) h1
    subst h2
    refine ⟨?_, ?_, ?_⟩
    · show (true && (backToKw pos (keywordEach r env)).all (·.1.isSome)) = true
      rw [a]; rfl
    · show n :: (backToKw pos (keywordEach r env)).filterMap (·.1) = n :: ks'
      rw [b]
    · show (false || (backToKw pos (keywordEach r env)).any (·.1.isNone)) = false
      rw [c]; rfl
/-- what the arguments and keywords give -/
noncomputable def tArgs (es : List Expr) (t tk : TA) : St → Hp → (List V → List V → Hp → Prop) → Prop := fun σ H Q => match es with
  | [] => tk σ H fun zs H2 => Q [] zs H2
  | _ :: _ => t σ H fun vs H1 => tk σ H1 fun zs H2 => Q vs zs H2
section
variable {X : Cx} {cl : ClsT} {H0 : Hp} {C0 : CH}
theorem call_args {fv : Value} {first : List Value} {es : List Expr} {kws : List Keyword} {ks : List Str} {t tk : TA} {pos : Pos} {pins : List (Addr × Obj)} {s : Shared} {σ : St} {H : Hp} {Q : Value → Shared → Prop}
    (hk : PySem.W.keepIn X.K fv = true) (hes : es.all notStar = true) (hks : kwNames kws = some ks) (ha : PA X es t) (hkw : PK X kws tk) (I : Inv X pins σ H s)
    (h : tArgs es t tk σ H fun vs zs H2 => ∀ s2 us ws, Inv X pins σ H2 s2 → Vals vs us → Vals zs ws → wpAny (model X.prog X.w) X.A (call fv (first ++ us) (ks.zip ws)) Q X.xe s2) :
    wpAny (model X.prog X.w) X.A (callWith pos fv first (backTo pos (starEach es X.env)) (backToKw pos (keywordEach kws X.env))) Q X.xe s := by
  obtain ⟨k1, k2, k3⟩ := kw_ok (env := X.env) (pos := pos) hks
  have hpl : ((backTo pos (starEach es X.env)).any (·.1) || (backToKw pos (keywordEach kws X.env)).any (·.1.isNone)) = false := by rw [star_any hes, k3]; rfl
  cases es with
  | nil =>
    refine PySem.W.callWith_KW0 (h₀ := X.base) I.ok.mod.kin hk k1 ?_ hpl
    refine thn (hkw.run pos pins s σ H _ I h) fun ws s2 ⟨zs, H2, I2, rz, q2⟩ => ⟨I2.kIn, ?_⟩
    rw [k2]
    exact q2 s2 [] ws I2 .nil rz
  | cons e rest =>
    rw [List.all_cons, Bool.and_eq_true] at hes
    refine PySem.W.callWith_KW (h₀ := X.base) I.ok.mod.kin hk k1 (thn (ha.run pos pins s σ H _ I h) fun us s1 ⟨vs, H1, I1, r, q⟩ => ?_) hpl (star_of hes.1)
    refine thn (hkw.run pos pins s1 σ H1 _ I1 q) fun ws s2 ⟨zs, H2, I2, rz, q2⟩ => ⟨I2.kIn, ?_⟩
    rw [k2]
    exact q2 s2 us ws I2 r rz
/-- a def runs at values, what it raises is wished for at the slots -/
theorem run_at {k : Nat} {f : Addr} {fd : FuncData} {ps : List Str} {sp : Sp} {E : St → XK} {CX : CXT} {pins : List (Addr × Obj)} {σ : St} {H : Hp} {s : Shared} {Q : VK} {args : Args} {us : List Value} {vs : List V} (F : FnOkG X.prog X.w X.K X.mg X.base CX k f fd ps sp) (hr : Room k X.A) (hg : X.A.guards = some [])
    (hb : BindsTo s fd args (ps.zip us)) (hx : PassesAt CX X σ (E σ)) (I : Inv X pins σ H s) (r : Vals vs us) (h : sp vs H Q (E σ)) : wpAny (model X.prog X.w) X.A (call (.ref f) args.pos args.kw) (EP X pins σ Q) X.xe s := by
  refine wpAny_call (codeAny_mono (F.run X.A X.stack s H args us vs Q (E σ) hr hg I.env0 hb r h) fun res s' hq => ?_)
  match res, hq with
  | .error e, hq => exact hx pins H s e s' I hq
  | .ok (.ret u), hq => exact I.after hq
end
noncomputable abbrev SemF := List D → CH → Kv → Kx → Prop
noncomputable def spC (K : PySem.W.Frag) (cl : ClsT) (np : Nat) (sem : SemF) : Sp := fun vs H Q E => ∃ ds C Qc Ec, RepL K H ds vs ∧ ds.length = np ∧ Rel K cl H C ∧ sem ds C Qc Ec ∧ EndE K cl H C Qc Q ∧
  (∀ x C' cls d H', Ec x C' → XRel K cl H' x cls d → Rel K cl H' C' → Keep H C H' C' → E cls d H')
/-- where a parameter's value comes from: the j-th positional value, the j-th keyword's, a default -/
inductive Src where
  | pos (j : Nat) | kw (j : Nat) | dfl (d : D)
noncomputable def Src.get (ds es : List D) : Src → D
  | .pos j => ds.getD j .non
  | .kw j => es.getD j .non
  | .dfl d => d
noncomputable def gath (g : List Src) (ds es : List D) : List D := g.map (Src.get ds es)
/-- how a def binds such a call: n positional values, keywords ks -/
noncomputable def BindsC (K : PySem.W.Frag) (fd : FuncData) (ps : List Str) (n : Nat) (ks : List Str) (g : List Src) : Prop :=
  ∃ (gv : List Value → List Value → List Value) (gV : List V → List V → List V), (∀ (s : Shared) (us ws : List Value), K.In s.heap → us.length = n → ws.length = ks.length → BindsTo s fd ⟨us, ks.zip ws⟩ (ps.zip (gv us ws))) ∧
    (∀ {vs us zs ws}, Vals vs us → Vals zs ws → Vals (gV vs zs) (gv us ws)) ∧ ∀ H ds vs es zs, ds.length = n → es.length = ks.length → RepL K H ds vs → RepL K H es zs → RepL K H (gath g ds es) (gV vs zs)
section
variable {X : Cx} {cl : ClsT} {H0 : Hp} {C0 : CH}
noncomputable def CPK (X : Cx) (cl : ClsT) (H0 : Hp) (C0 : CH) (kws : List Keyword) (c : CTA) : Prop := PK X kws (tA X.K cl H0 C0 c)
theorem cpk_nil : CPK X cl H0 C0 [] cNil := ⟨fun pos pins s σ H Q I ⟨σc, C, Qc, S, h, hq⟩ => pk_nil.run pos pins s σ H Q I (hq _ _ _ _ h .nil S.r Keep.refl)⟩
theorem cpk_cons {e : Expr} {ca : CTE} {cs : CTA} {kws : List Keyword} {nm : Option Str} {kpos : Pos} (ha : CPE X cl H0 C0 e ca) (hr : CPK X cl H0 C0 kws cs) : CPK X cl H0 C0 (⟨nm, e, kpos⟩ :: kws) (cCons ca cs) :=
  ⟨fun pos pins s σ H Q I ⟨σc, C, Qc, S, h, hq⟩ => (pk_cons ha hr).run pos pins s σ H Q I ⟨σc, C, _, S, h, fun d C1 v H1 h1 rv R1 k1 => ⟨σc, C1, _, S.step k1 R1, h1, fun ds C2 vs H2 h2 rs R2 k2 =>
    hq _ _ _ _ h2 (.cons (rv.keep R1 k2) rs) R2 (k1.trans k2)⟩⟩⟩
/-- both lists of arguments, by data -/
noncomputable def cArgs (a k : CTA) : Env3 → CH → (List D → List D → CH → Prop) → Prop := fun σ C Q => a σ C fun ds C1 => k σ C1 fun es C2 => Q ds es C2
theorem tArgs_of {es : List Expr} {kws : List Keyword} {ca ck : CTA} (h0 : es = [] → ca = cNil) {σ : St} {H : Hp} {σc : Env3} {C : CH} {Qc : List D → List D → CH → Prop} {Q : List V → List V → Hp → Prop} (S : S3 X.K cl H0 C0 σ H σc C) (h : cArgs ca ck σc C Qc)
    (hq : ∀ ds zs C' vs ws H', Qc ds zs C' → RepL X.K H' ds vs → RepL X.K H' zs ws → Rel X.K cl H' C' → Keep H C H' C' → Q vs ws H') : tArgs es (tA X.K cl H0 C0 ca) (tA X.K cl H0 C0 ck) σ H Q := by
  cases es with
  | nil =>
    rw [h0 rfl] at h
    exact ⟨σc, C, _, S, h, fun zs C' ws H' q r R k => hq [] zs C' [] ws H' q .nil r R k⟩
  | cons e es =>
    exact ⟨σc, C, _, S, h, fun ds C1 vs H1 h1 rs R1 k1 => ⟨σc, C1, _, S.step k1 R1, h1, fun zs C2 ws H2 h2 rz R2 k2 => hq ds zs C2 vs ws H2 h2 (rs.keep R1 k2) rz R2 (k1.trans k2)⟩⟩
/-- f(..) of a def -/
noncomputable def cCall (sem : SemF) (np n m : Nat) (g : List Src) (ex : Kxs) (a k : CTA) : CTE := fun σ C Q => cArgs a k σ C fun ds es C1 => ds.length = n ∧ es.length = m ∧ (gath g ds es).length = np ∧ sem (gath g ds es) C1 Q fun x C' => ex x σ C'
theorem cpe_call {k np n : Nat} {f : Addr} {fd : FuncData} {ps ks : List Str} {sem : SemF} {g : List Src} {ex : Kxs} {x : Str} {p pos : Pos} {es : List Expr} {kws : List Keyword} {ca ck : CTA}
    (F : FnOkG X.prog X.w X.K X.mg X.base (L2.CX X.prog X.w) k f fd ps (spC X.K cl np sem)) (hr : Room k X.A) (hgd : X.A.guards = some []) (hg : Gl X x) (hm : X.mg x = some (.ref f)) (hk : PySem.W.keepIn X.K (.ref f) = true) (hb : BindsC X.K fd ps n ks g) (tk : Takes X (WC X.K cl H0 C0 ex))
    (hes : es.all notStar = true) (hks : kwNames kws = some ks) (ha : CPA X cl H0 C0 es ca) (hkw : CPK X cl H0 C0 kws ck) (h0 : es = [] → ca = cNil) (hdb : (x == ("__debug__" : Str)) = false) : CPE X cl H0 C0 (.Call (.Name x p) es kws pos) (cCall sem np n ks.length g ex ca ck) := by
  refine ⟨fun pins s σ H Q I ⟨σc, C, Qc, S, h, hq⟩ => ?_⟩
  refine wpAny_Call_Name_kw (ld_glob I hg hm ?_ hdb)
  obtain ⟨gv, gV, b1, b2, b3⟩ := hb
  refine call_args (first := []) hk hes hks ha hkw I (tArgs_of (kws := kws) h0 S h fun ds zs C' vs ws H' ⟨l1, l2, l3, q⟩ r1 r2 R' k' s2 us ws' I2 rv rw' => ?_)
  have e1 : us.length = n := by rw [← rv.length, ← r1.length, l1]
  have e2 : ws'.length = ks.length := by rw [← rw'.length, ← r2.length, l2]
  exact run_at (args := ⟨us, ks.zip ws'⟩) (E := WE (WC X.K cl H0 C0 ex)) F hr hgd (b1 s2 us ws' I2.kIn e1 e2) (passAt tk σ) I2 (b2 rv rw') ⟨_, C', Qc, _, b3 H' ds vs zs ws l1 l2 r1 r2, l3, R', q, hq.from_ k', fun x C'' cls d H'' hx xr R'' k'' => ⟨x, σc, C'', hx, xr, S.step (k'.trans k'') R''⟩⟩
end
end L3
namespace L3
open PySem L2
inductive CT where
  | nm (i : Nat) | tp (is : List Nat)
noncomputable def CT.slots : CT → List Nat
  | .nm i => [i]
  | .tp is => is
noncomputable def setAll (σ : Env3) : List Nat → List D → Env3
  | i :: is, d :: ds => setAll (σ.set i (some d)) is ds
  | _, _ => σ
noncomputable def setAllV (σ : St) : List Nat → List V → St
  | i :: is, d :: ds => setAllV (σ.set i (some d)) is ds
  | _, _ => σ
noncomputable def bindT (T : CT) (d : D) (σ : Env3) : Option Env3 := match T, d with
  | .nm i, d => some (σ.set i (some d))
  | .tp is, .tup ds => if ds.length = is.length then some (setAll σ is ds) else none
  | _, _ => none
noncomputable def gAll : List Nat → TGs
  | [] => gNil
  | i :: is => gCons (gName i) (gAll is)
noncomputable def tgV (K : PySem.W.Frag) : CT → TG
  | .nm i => gName i
  | .tp is => gTup K is.length (gAll is)
noncomputable def wipe3 (σ : Env3) : List Nat → Env3
  | [] => σ
  | v :: vs => (wipe3 σ vs).set v none
section
variable {K : PySem.W.Frag} {cl : ClsT} {H : Hp} {C : CH}
theorem RepS.wipe {σc : Env3} {σ : St} (h : RepS K H σc σ) : ∀ vs : List Nat, RepS K H (wipe3 σc vs) (L2.wipe σ vs)
  | [] => h
  | v :: vs => RepS.wipe1 v (RepS.wipe h vs)
theorem wipe_set {σ : St} {o : Option V} : ∀ {vs : List Nat} {i : Nat}, i ∈ vs → L2.wipe (σ.set i o) vs = L2.wipe σ vs
  | v :: vs, i, h => by
    show (L2.wipe (σ.set i o) vs).set v none = (L2.wipe σ vs).set v none
    by_cases hv : i ∈ vs
    · rw [wipe_set hv]
    · have e : i = v := by rcases List.mem_cons.mp h with e | e; exact e; exact absurd e hv
      subst e
      have go : ∀ ws : List Nat, i ∉ ws → L2.wipe (σ.set i o) ws = (L2.wipe σ ws).set i o := by
        intro ws
        induction ws with
        | nil => intro _; rfl
        | cons w ws ih =>
          intro hw
          show (L2.wipe (σ.set i o) ws).set w none = ((L2.wipe σ ws).set w none).set i o
          rw [ih (fun z => hw (List.mem_cons_of_mem _ z)), List.set_comm _ _ (fun z => hw (by rw [z]; exact List.mem_cons_self))]
      rw [go vs hv, List.set_set]
theorem setAll_rep : ∀ {is : List Nat} {ds : List D} {vs : List V} {σc : Env3} {σ : St}, RepL K H ds vs → RepS K H σc σ → RepS K H (setAll σc is ds) (setAllV σ is vs)
  | [], _, _, _, _, _, s => by unfold setAll setAllV; exact s
  | _ :: _, _, _, _, _, .nil, s => by unfold setAll setAllV; exact s
  | i :: is, _, _, _, _, .cons r t, s => by
    unfold setAll setAllV
    exact setAll_rep t (s.set r i)
theorem gAll_set : ∀ {is : List Nat} {vs : List V} {σ : St} {Q : St → Hp → Prop}, vs.length = is.length → Q (setAllV σ is vs) H → gAll is vs σ H Q
  | [], vs, σ, Q, h, q => by
    cases vs with
    | nil => exact ⟨rfl, q⟩
    | cons _ _ => cases h
  | i :: is, vs, σ, Q, h, q => by
    cases vs with
    | nil => cases h
    | cons v vs => exact ⟨v, vs, rfl, gAll_set (by simpa using h) q⟩
theorem wipe_setAll : ∀ {is : List Nat} {xs : List V} {σ : St} {vs : List Nat}, (∀ i ∈ is, i ∈ vs) → L2.wipe (setAllV σ is xs) vs = L2.wipe σ vs
  | [], _, _, _, _ => by unfold setAllV; rfl
  | _ :: _, [], _, _, _ => by unfold setAllV; rfl
  | i :: is, x :: xs, σ, vs, h => by
    unfold setAllV
    rw [wipe_setAll fun j hj => h j (List.mem_cons_of_mem _ hj), wipe_set (h i List.mem_cons_self)]
theorem bind_tg {T : CT} {d : D} {v : V} {σc σc' : Env3} {σ : St} (e : bindT T d σc = some σc') (r : Rep K H d v) (s : RepS K H σc σ) :
    ∃ σ', RepS K H σc' σ' ∧ (∀ Q : St → Hp → Prop, Q σ' H → tgV K T v σ H Q) ∧ ∀ vs, (∀ i ∈ T.slots, i ∈ vs) → L2.wipe σ' vs = L2.wipe σ vs := by
  cases T with
  | nm i =>
    cases e
    exact ⟨_, s.set r i, fun Q q => q, fun vs h => wipe_set (h i (by simp [CT.slots]))⟩
  | tp is =>
    cases d with
    | tup ds =>
      by_cases hl : ds.length = is.length
      · rw [show bindT (.tp is) (.tup ds) σc = some (setAll σc is ds) from if_pos hl] at e
        cases e
        cases r with
        | tup sq rr => exact ⟨_, setAll_rep rr s, fun Q q => ⟨_, _, rfl, sq, by rw [← rr.length]; exact hl, gAll_set (by rw [← rr.length]; exact hl) q⟩, fun vs h => wipe_setAll h⟩
      · rw [show bindT (.tp is) (.tup ds) σc = none from if_neg hl] at e
        cases e
    | _ => cases e
end
noncomputable def hT (T : CT) : CTG := fun d σ C Q => ∃ σ', bindT T d σ = some σ' ∧ Q σ' C
theorem cpg_T {X : Cx} {cl : ClsT} {e : Expr} {T : CT} (h : PG X e (tgV X.K T)) : CPG X cl e (hT T) := h.imp fun v σ H Q ⟨d, σc, C, Qc, r, s, R, ⟨σ', e, h⟩, hq⟩ => by
  obtain ⟨σ2, s2, g, _⟩ := bind_tg e r s
  exact g Q (hq _ _ _ _ h s2 R Keep.refl)
theorem pgs_all {X : Cx} (hN : X.N.Nodup) : ∀ {xs : List Expr} {is : List Nat}, xs.length = is.length → (∀ (j : Nat) (e : Expr) (i : Nat), xs[j]? = some e → is[j]? = some i → ∃ x pos, e = .Name x pos ∧ X.N[i]? = some x ∧ Loc X.env.scope x ∧ (X.fn x = true ∨ X.env.scope.names.lookup x = some .local)) → PGs X xs (gAll is)
  | [], is, h, _ => by
    cases is with
    | nil => exact pgs_nil
    | cons _ _ => cases h
  | x :: xs, is, h, hx => by
    cases is with
    | nil => cases h
    | cons i is =>
      obtain ⟨n, pos, rfl, h1, h2, h3⟩ := hx 0 x i rfl rfl
      exact pgs_cons (pg_name hN h1 h2 h3) (pgs_all hN (by simpa using h) fun j e i' a b => hx (j + 1) e i' (by simpa using a) (by simpa using b))
/-- one item after another: the list so far -/
noncomputable def lcL (T : CT) (vs : List Nat) (σ : Env3) (t : CTT) (e : CTE) (G : CH → Prop) (Kq : List D → CH → Prop) : List D → List D → CH → Prop
  | [], acc, C => G C ∧ Kq acc C
  | d :: r, acc, C => G C ∧ ∃ σ2, bindT T d (wipe3 σ vs) = some σ2 ∧ t σ2 C fun b C1 => if b = true then e σ2 C1 fun y C2 => acc.length < sizeLine ∧ lcL T vs σ t e G Kq r (acc ++ [y]) C2 else lcL T vs σ t e G Kq r acc C1
noncomputable def cLc (it : CTI) (T : CT) (vs : List Nat) (t : CTT) (e : CTE) : CTE := fun σ C Q => it σ C fun ds G C1 => lcL T vs σ t e G (fun acc C2 => ∀ p, C2 p = none → Q (.ref p) (cup C2 p (.lst acc))) ds [] C1
noncomputable def cYes : CTT := fun _ C Q => Q true C
section
variable {X : Cx} {cl : ClsT} {H0 : Hp} {C0 : CH}
noncomputable def CPTs (X : Cx) (cl : ClsT) (H0 : Hp) (C0 : CH) (ifs : List Expr) (c : CTT) : Prop := PTs X ifs (tT X.K cl H0 C0 c)
theorem cpts_nil : CPTs X cl H0 C0 [] cYes := ⟨fun pins s σ H Q I ⟨σc, C, Qc, S, h, hq⟩ => pts_nil.run pins s σ H Q I (hq _ _ _ h S.r Keep.refl)⟩
theorem cpts_one {c : Expr} {t : CTT} (h : CPT X cl H0 C0 c t) : CPTs X cl H0 C0 [c] t := pts_one h
theorem tLc_of {it : CTI} {T : CT} {vs : List Nat} {t : CTT} {e : CTE} (hv : ∀ i ∈ T.slots, i ∈ vs) : ∀ σ H Q, tE X.K cl H0 C0 (cLc it T vs t e) σ H Q →
    tLc (tI X.K cl H0 C0 it) (tgV X.K T) (tT X.K cl H0 C0 t) (tE X.K cl H0 C0 e) vs σ H Q := fun σ H Q ⟨σc, C, Qc, S, h, hq⟩ => ⟨σc, C, _, S, h, fun ds G C1 H1 J h1 R1 k1 ok Da hD => by
  have S1 := S.step k1 R1
  -- turn i: the list so far stands at Da, the clean heap does not know it
  refine ⟨fun i m H' => m = ds.length - i ∧ i ≤ ds.length ∧ ∃ C' acc vacc, RepS X.K H' σc σ ∧ Rel X.K cl H' C' ∧ Keep H1 C1 H' C' ∧ H' Da = some (.lst vacc) ∧ C' Da = none ∧ RepL X.K H' acc vacc ∧
      lcL T vs σc t e G (fun acc C2 => ∀ p, C2 p = none → Qc (.ref p) (cup C2 p (.lst acc))) (ds.drop i) acc C',
    ⟨ds.length, by simp, Nat.zero_le _, C1, [], [], S1.s.keep R1 (keep_newH hD _ R1), R1.newH hD _, keep_newH hD _ R1, upd_same, free_of R1 hD, .nil, h1⟩, ?_⟩
  rintro i m H' ⟨rfl, hi, C', acc, vacc, s', R', k', hDa, hCa, ra, hl⟩
  by_cases hlt : i < ds.length
  · rw [List.drop_eq_getElem_cons hlt] at hl
    obtain ⟨hG, σ2c, eb, hl⟩ := hl
    refine .inr ⟨ok.go i H' C' k' R' hG hlt, fun H2 => i + 1 ≤ ds.length ∧ ∃ C2 acc2 vacc2, RepS X.K H2 σc σ ∧ Rel X.K cl H2 C2 ∧ Keep H1 C1 H2 C2 ∧ H2 Da = some (.lst vacc2) ∧ C2 Da = none ∧ RepL X.K H2 acc2 vacc2 ∧
      lcL T vs σc t e G (fun acc C2 => ∀ p, C2 p = none → Qc (.ref p) (cup C2 p (.lst acc))) (ds.drop (i + 1)) acc2 C2, fun H2 ⟨hle, q⟩ => ⟨ds.length - (i + 1), by omega, rfl, hle, q⟩, fun x H2 hy => ?_⟩
    obtain ⟨rx, R2, k2⟩ := ok.yld i H' C' x H2 k' R' hG hy _ (List.getElem?_eq_getElem hlt)
    have s2 := s'.keep R' k2
    obtain ⟨σ2, sb, hb, hw⟩ := bind_tg (K := X.K) eb rx (s2.wipe vs)
    refine hb _ ⟨?_, ?_⟩
    · have e1 := hw vs hv
      have e2 : ∀ (ws : List Nat) (τ : St), (∀ j ∈ ws, j ∈ vs) → L2.wipe (L2.wipe τ ws) vs = L2.wipe τ vs := by
        intro ws
        induction ws with
        | nil => intro τ _; rfl
        | cons w ws ih =>
          intro τ hws
          show L2.wipe ((L2.wipe τ ws).set w none) vs = _
          rw [wipe_set (hws w List.mem_cons_self)]
          exact ih τ fun j hj => hws j (List.mem_cons_of_mem _ hj)
      rw [e1]
      exact e2 vs σ fun _ z => z
    · have kA : Keep H1 C1 H2 C' := k'.trans k2
      have hDa2 : H2 Da = some (.lst vacc) := (k2 Da _ hDa hCa .lst).1
      refine ⟨σ2c, C', _, ⟨sb, R2, (S1.f.trans kA)⟩, hl, fun b C3 H3 h3 R3 k3 => ?_⟩
      have hDa3 := k3 Da _ hDa2 hCa .lst
      cases b with
      | true =>
        refine iteT ⟨σ2c, C3, _, ⟨sb.keep R2 k3, R3, S1.f.trans (kA.trans k3)⟩, h3, fun y C4 v H4 ⟨hsz, h4⟩ rv R4 k4 => ?_⟩
        have hDa4 := k4 Da _ hDa3.1 hDa3.2 .lst
        have r4 : RepL X.K H4 acc vacc := (((ra.keep R' k2).keep R2 k3).keep R3 k4)
        refine ⟨vacc, hDa4.1, by rw [← r4.length]; exact hsz, hlt, C4, acc ++ [y], vacc ++ [v], ?_⟩
        have kU : Keep H4 C4 (upd H4 Da (.lst (vacc ++ [v]))) C4 → True := fun _ => trivial
        -- the list is written at Da: nothing that the clean heap or the data lean on
        have nt : ∀ (b : Addr) (xs : List V), Rd H4 b (.tup xs) → b ≠ Da := fun b xs h z => by
          subst z
          rcases h with h | ⟨u, h⟩ <;> (rw [hDa4.1] at h; cases h)
        have sqU : ∀ {b : Addr} {xs : List V}, SqT X.K H4 b xs → SqT X.K (upd H4 Da (.lst (vacc ++ [v]))) b xs := fun {b xs} h => by
          rcases h with h | h
          · have n := nt b xs h
            rcases h with h | ⟨u, h⟩
            · exact .inl (.inl (by rw [upd_ne n]; exact h))
            · exact .inl (.inr ⟨u, by rw [upd_ne n]; exact h⟩)
          · exact .inr h
        have rlU : ∀ {b : Addr} {xs : List V}, RlS X.K H4 b xs → RlS X.K (upd H4 Da (.lst (vacc ++ [v]))) b xs := fun {b xs} h => by
          rcases h with ⟨o, h⟩ | h
          · have n : b ≠ Da := fun z => by rw [z, hDa4.1] at h; cases h
            exact .inl ⟨o, by rw [upd_ne n]; exact h⟩
          · exact .inr h
        have repU : ∀ (d : D) (w : V), Rep X.K H4 d w → Rep X.K (upd H4 Da (.lst (vacc ++ [v]))) d w := fun d w h => by
          refine Rep.rec (motive_1 := fun d w _ => Rep X.K (upd H4 Da (.lst (vacc ++ [v]))) d w) (motive_2 := fun ds ws _ => RepL X.K (upd H4 Da (.lst (vacc ++ [v]))) ds ws) .non (fun b => .bl b) (fun b => .int b) (fun b => .str b) (fun b => .ty b) (fun b => .ref b) (fun h _ ih => .tup (sqU h) ih) (fun h _ ih => .rls (rlU h) ih) .nil (fun _ _ ih1 ih2 => .cons ih1 ih2) h
        have repLU : ∀ (d : List D) (w : List V), RepL X.K H4 d w → RepL X.K (upd H4 Da (.lst (vacc ++ [v]))) d w := fun d w h => by
          induction h using RepL.rec (motive_1 := fun _ _ _ => True) with
          | non => trivial
          | bl => trivial
          | int => trivial
          | str => trivial
          | ty => trivial
          | ref => trivial
          | tup => trivial
          | rls => trivial
          | nil => exact .nil
          | cons h1 _ _ ih => exact .cons (repU _ _ h1) ih
        have s4 := (((s2.keep R2 k3)).keep R3 k4)
        have repSU : ∀ (d : Env3) (w : St), RepS X.K H4 d w → RepS X.K (upd H4 Da (.lst (vacc ++ [v]))) d w := fun d w h => by
          induction h with
          | nil => exact .nil
          | no _ ih => exact .no ih
          | so h1 _ ih => exact .so (repU _ _ h1) ih
        have repFU : ∀ {κ : Type} (d : List (κ × D)) (w : List (κ × V)), RepF X.K H4 d w → RepF X.K (upd H4 Da (.lst (vacc ++ [v]))) d w := fun d w h => by
          induction h with
          | nil => exact .nil
          | cons h1 _ ih => exact .cons (repU _ _ h1) ih
        have repKU : ∀ (d : List (NestedKey × D)) (w : List (NestedKey × Addr × Value)), RepK X.K H4 d w → RepK X.K (upd H4 Da (.lst (vacc ++ [v]))) d w := fun d w h => by
          induction h with
          | nil => exact .nil
          | cons e z h1 h2 q _ ih => exact .cons e z (repU _ _ h1) (repU _ _ h2) q ih
        refine ⟨repSU _ _ s4, ⟨fun a o ho => ?_, R4.tab.write hDa4.1 .lst (fun q z => by cases z)⟩, fun b o hb hn ht => ?_, upd_same, hDa4.2, repLU _ _ (r4.append (.cons rv .nil)), h4⟩
        · have na : a ≠ Da := fun z => by rw [z, hDa4.2] at ho; cases ho
          have q := R4 a o ho
          cases o with
          | lst ds => obtain ⟨ws, h1, h2⟩ := q; exact ⟨ws, by rw [upd_ne na]; exact h1, repLU _ _ h2⟩
          | dic ds => obtain ⟨ws, h1, h2⟩ := q; exact ⟨ws, by rw [upd_ne na]; exact h1, repFU _ _ h2⟩
          | dtk ds => obtain ⟨ws, h1, h2⟩ := q; exact ⟨ws, by rw [upd_ne na]; exact h1, repKU _ _ h2⟩
          | ins c ds => obtain ⟨Ca, dx, ws, h0, h1, h2⟩ := q; exact ⟨Ca, dx, ws, h0, by rw [upd_ne na]; exact h1, repFU _ _ h2⟩
        · have q := ((kA.trans k3).trans k4) b o hb hn ht
          exact ⟨by rw [upd_ne (ne_of_none hb hD)]; exact q.1, q.2⟩
      | false =>
        exact iteF ⟨hlt, C3, acc, vacc, (s2.keep R2 k3), R3, kA.trans k3, hDa3.1, hDa3.2, (ra.keep R' k2).keep R2 k3, h3⟩
  · have e0 : ds.drop i = [] := List.drop_eq_nil_of_le (by omega)
    rw [e0] at hl
    refine .inl ⟨ok.stop i H' C' k' R' hl.1 (by omega), ?_⟩
    have R2 : Rel X.K cl H' (cup C' Da (.lst acc)) := ⟨fun a o ho => by
      by_cases ha : a = Da
      · subst ha; rw [cup_same] at ho; cases ho; exact ⟨vacc, hDa, ra⟩
      · rw [cup_ne ha] at ho; exact R' a o ho, R'.tab⟩
    refine hq _ _ _ _ (hl.2 Da hCa) (.ref Da) R2 fun b o hb hn ht => ?_
    obtain ⟨z1, z2⟩ := (k1.trans k') b o hb hn ht
    obtain ⟨z3, _⟩ := k1 b o hb hn ht
    exact ⟨z1, by rw [cup_ne (ne_of_none z3 hD)]; exact z2⟩⟩
theorem cpe_lc {elt tg iter : Expr} {ifs : List Expr} {scope : Scope} {own : List (Str × Nat)} {pos : Pos} {it : CTI} {T : CT} {t : CTT} {e : CTE} (hc : X.calm = true) (hN : X.N.Nodup) (hi : CPI X cl H0 C0 tg iter it) (ok : BlkOk X.N X.env.scope scope own) (hv : ∀ i ∈ T.slots, i ∈ own.map (·.2))
    (hg : ∀ (s : Shared) (H : Hp) (C : Addr) (cs : List (Str × Addr)) (fp : List Addr), PG (X.blk s H scope (compEnvC scope cs C X.env) fp) tg (tgV X.K T)) (ht : ∀ (s : Shared) (H : Hp) (C : Addr) (cs : List (Str × Addr)) (fp : List Addr), CPTs (X.blk s H scope (compEnvC scope cs C X.env) fp) cl H0 C0 ifs t)
    (he : ∀ (s : Shared) (H : Hp) (C : Addr) (cs : List (Str × Addr)) (fp : List Addr), CPE (X.blk s H scope (compEnvC scope cs C X.env) fp) cl H0 C0 elt e) (hs : ∀ x, foldedSetIterable iter X.env x = pure x) :
    CPE X cl H0 C0 (.ListComp elt [⟨tg, iter, ifs, 0⟩] scope pos) (cLc it T (own.map (·.2)) t e) := (pe_lc (tt := tT X.K cl H0 C0 t) (te := tE X.K cl H0 C0 e) hc hN hi ok hg ht he hs).imp (tLc_of hv)
/-- name = [..] on one line -/
theorem cps_setLc {i : Nat} {y : Str} {py : Pos} {elt tg iter : Expr} {ifs : List Expr} {scope : Scope} {own : List (Str × Nat)} {pos spos : Pos} {it : CTI} {T : CT} {t : CTT} {e : CTE} (hc : X.calm = true) (hN : X.N.Nodup) (hy : X.N[i]? = some y) (hyl : X.env.scope.names.lookup y = some .local)
    (hsw : swapsWith (.ListComp elt [⟨tg, iter, ifs, 0⟩] scope pos) (some (.Name y py)) spos.line X.env = pure true) (hi : CPI X cl H0 C0 tg iter it) (ok : BlkOk X.N X.env.scope scope own) (hv : ∀ i ∈ T.slots, i ∈ own.map (·.2))
    (hg : ∀ (s : Shared) (H : Hp) (C : Addr) (cs : List (Str × Addr)) (fp : List Addr), PG (X.blk s H scope (compEnvC scope cs C X.env) fp) tg (tgV X.K T)) (ht : ∀ (s : Shared) (H : Hp) (C : Addr) (cs : List (Str × Addr)) (fp : List Addr), CPTs (X.blk s H scope (compEnvC scope cs C X.env) fp) cl H0 C0 ifs t)
    (he : ∀ (s : Shared) (H : Hp) (C : Addr) (cs : List (Str × Addr)) (fp : List Addr), CPE (X.blk s H scope (compEnvC scope cs C X.env) fp) cl H0 C0 elt e) (hs : ∀ x, foldedSetIterable iter X.env x = pure x) :
    CPS X cl H0 C0 (.Assign [.Name y py] (.ListComp elt [⟨tg, iter, ifs, 0⟩] scope pos) spos) (sAsg (cLc it T (own.map (·.2)) t e) (hT (.nm i))) :=
  (ps_setLc (tt := tT X.K cl H0 C0 t) (te := tE X.K cl H0 C0 e) hc hN hy hyl hsw hi ok hg ht he hs).imp fun D σ H ⟨σc, C, Dc, S, h, hq⟩ => tLc_of (X := X) hv σ H (fun v H1 => gName i v σ H1 D.nx) ⟨σc, C, _, S, h, fun d C1 v H1 ⟨σ', h1, h2⟩ rv R1 k1 => by
    cases h1
    exact hq.nx _ _ _ _ h2 ((S.s.keep S.r k1).set rv i) R1 k1⟩
end
end L3
namespace L3
open PySem L2
noncomputable def noSuper : Expr → Bool
  | .Call (.Name id _) [] [] _ => id != ("super" : Str)
  | _ => true
theorem base_of {o : Expr} {m : Str} {env : Env} {w : Sem Value} (h : noSuper o = true) : attributeBase o m env w = w := by
  cases o with
  | Call f a k p =>
    cases f with
    | Name id q =>
      cases a with
      | nil =>
        cases k with
        | nil => exact abase_call h
        | cons _ _ => rfl
      | cons _ _ => rfl
    | _ => rfl
  | _ => rfl
noncomputable def notSlice : Expr → Bool
  | .Slice .. => false
  | _ => true
theorem plainIx_of {b : Expr} (h : notSlice b = true) : PlainIx b := fun o i => by
  cases b <;> first | rfl | cases h
noncomputable def plainTest : Expr → Bool
  | .BoolOp .. => false
  | .UnaryOp .Not _ _ => false
  | .Compare .. => false
  | .NamedExpr .. => false
  | .IfExp .. => false
  | _ => true
noncomputable def oIxA : O2 := fun x y C Q => match x with
  | .tup ds => ∃ i d, y = .int i ∧ atI ds i = some d ∧ Q d C
  | .rls ds => ∃ i d, y = .int i ∧ atI ds i = some d ∧ Q d C
  | .str z => ∃ i c, y = .int i ∧ z.length ≤ sizeLine ∧ atI z.cps.toList i = some c ∧ Q (.str ⟨#[c]⟩) C
  | .ref p => match C p with
    | some (.lst ds) => ∃ i d, y = .int i ∧ atI ds i = some d ∧ Q d C
    | some (.dic kvs) => ∃ k d, keyD y = some k ∧ valC kvs k = some d ∧ Q d C
    | _ => False
  | _ => False
theorem oIxA_cases {x y : D} {C : CH} {Q : Kv} (h : oIxA x y C Q) : oIx x y C Q ∨ (oIxS x y C Q ∨ oGet x y C Q) := by
  unfold oIxA at h
  cases x with
  | tup ds => obtain ⟨i, d, h1, h2, h3⟩ := h; exact .inl ⟨ds, i, d, .inl rfl, h1, h2, h3⟩
  | rls ds => obtain ⟨i, d, h1, h2, h3⟩ := h; exact .inl ⟨ds, i, d, .inr (.inl rfl), h1, h2, h3⟩
  | str z => obtain ⟨i, c, h1, h2, h3, h4⟩ := h; exact .inr (.inl ⟨z, i, c, rfl, h1, h2, h3, h4⟩)
  | ref p =>
    simp only at h
    cases e : C p with
    | none => rw [e] at h; exact h.elim
    | some o =>
      rw [e] at h
      cases o with
      | lst ds => obtain ⟨i, d, h1, h2, h3⟩ := h; exact .inl ⟨ds, i, d, .inr (.inr ⟨p, rfl, e⟩), h1, h2, h3⟩
      | dic kvs => obtain ⟨k, d, h1, h2, h3⟩ := h; exact .inr (.inr ⟨p, kvs, k, d, rfl, e, h1, h2, h3⟩)
      | dtk kvs => exact h.elim
      | ins c fs => exact h.elim
  | _ => exact h.elim
section
variable {X : Cx} {cl : ClsT} {H0 : Hp} {C0 : CH} {a b e o : Expr} {es : List Expr} {ca cb co : CTE} {cs : CTA} {pos : Pos}
noncomputable def rIxA (K : PySem.W.Frag) : R2 := fun x y H Q => (rIxL K x y H Q ∨ rIxT K x y H Q) ∨ (rIxS x y H Q ∨ rGetV x y H Q)
theorem ixR_A (hu : X.A.units + 1 < cLine) : IxR X (rIxA X.K) := (ix_list.or ix_tup).or (ix_str.or (ix_dict hu))
theorem lk_ixA {K : PySem.W.Frag} : Lk2 K cl (rIxA K) oIxA := fun H C d e v u Q Qc rd re R h hq => by
  rcases oIxA_cases h with h | h | h
  · exact .inl (lk_ix H C d e v u Q Qc rd re R h hq)
  · exact .inr (.inl (lk_ixS H C d e v u Q Qc rd re R h hq))
  · exact .inr (.inr (lk_get H C d e v u Q Qc rd re R h hq))
theorem cpe_ix (hu : X.A.units + 1 < cLine) (ha : CPE X cl H0 C0 a ca) (hb : CPE X cl H0 C0 b cb) (hs : notSlice b = true) : CPE X cl H0 C0 (.Subscript a b pos) (cBin oIxA ca cb) :=
  (pe_ix (ixR_A hu) ha hb (plainIx_of hs)).imp (tOp_of (ta := tE X.K cl H0 C0 ca) (tb := tE X.K cl H0 C0 cb) lk_ixA)
noncomputable abbrev CTO := Env3 → CH → (Option Int → CH → Prop) → Prop
noncomputable def tO (K : PySem.W.Frag) (cl : ClsT) (H0 : Hp) (C0 : CH) (c : CTO) : TO := fun σ H Q => ∃ σc C Qc, S3 K cl H0 C0 σ H σc C ∧ c σc C Qc ∧ ∀ i C' H', Qc i C' → Rel K cl H' C' → Keep H C H' C' → Q i H'
noncomputable def CPO (X : Cx) (cl : ClsT) (H0 : Hp) (C0 : CH) (e : Option Expr) (c : CTO) : Prop := PO X e (tO X.K cl H0 C0 c)
noncomputable def cNoPart : CTO := fun _ C Q => Q none C
noncomputable def cPart (a : CTE) : CTO := fun σ C Q => a σ C fun d C1 => ∃ i, d = .int i ∧ Q (some i) C1
theorem cpo_none : CPO X cl H0 C0 none cNoPart := ⟨fun pins s σ H Q I ⟨σc, C, Qc, S, h, hq⟩ => po_none.run pins s σ H Q I (hq _ _ _ h S.r Keep.refl)⟩
theorem cpo_some (he : CPE X cl H0 C0 e ca) : CPO X cl H0 C0 (some e) (cPart ca) := ⟨fun pins s σ H Q I ⟨σc, C, Qc, S, h, hq⟩ => (po_some he).run pins s σ H Q I ⟨σc, C, _, S, h, fun d C1 v H1 ⟨i, h1, h2⟩ rv R1 k1 => by
  subst h1; cases rv
  exact ⟨i, rfl, hq _ _ _ h2 R1 k1⟩⟩⟩
noncomputable def cutD (ds : List D) (lo hi : Option Int) : List D := (ds.drop (HT.sIx ds.length 0 lo)).take (HT.sIx ds.length ds.length hi - HT.sIx ds.length 0 lo)
noncomputable def oSl (x : D) (lo hi : Option Int) : CH → Kv → Prop := fun C Q => match x with
  | .tup ds => Q (.tup (cutD ds lo hi)) C
  | .str z => z.length ≤ sizeLine ∧ Q (.str (cutS z lo hi)) C
  | .ref p => (∃ ds, LsC C p ds ∧ ∀ l, C l = none → Q (.ref l) (cup C l (.lst (cutD ds lo hi))))
  | _ => False
noncomputable def cSl (a : CTE) (l h : CTO) : CTE := fun σ C Q => a σ C fun d C1 => l σ C1 fun lo C2 => h σ C2 fun hi C3 => oSl d lo hi C3 Q
theorem RepL.cut {K : PySem.W.Frag} {H : Hp} {ds : List D} {vs : List V} (h : RepL K H ds vs) (lo hi : Option Int) : RepL K H (cutD ds lo hi) (cutV vs lo hi) := by
  unfold cutD cutV
  rw [← h.length]
  exact (h.drop _).take _
theorem sIx_whole {n : Nat} {lo hi : Option Int} (h : HT.sIx n 0 lo = 0 ∧ HT.sIx n n hi = n) (ds : List D) (e : ds.length = n) : cutD ds lo hi = ds := by
  unfold cutD
  rw [e, h.1, h.2, List.drop_zero, Nat.sub_zero, ← e, List.take_length]
theorem cpe_slice {lo hi : Option Expr} {cl' ch : CTO} {p2 : Pos} (ha : CPE X cl H0 C0 a ca) (hl : CPO X cl H0 C0 lo cl') (hh : CPO X cl H0 C0 hi ch) : CPE X cl H0 C0 (.Subscript a (.Slice lo hi none p2) pos) (cSl ca cl' ch) :=
  (pe_slice (sl_tupA.or (sl_list.or sl_str)) ha hl hh).imp fun σ H Q ⟨σc, C, Qc, S, h, hq⟩ => ⟨σc, C, _, S, h, fun d C1 v H1 h1 rv R1 k1 => ⟨σc, C1, _, S.step k1 R1, h1, fun l C2 H2 h2 R2 k2 => ⟨σc, C2, _, (S.step k1 R1).step k2 R2, h2, fun u C3 H3 h3 R3 k3 => by
    have rv3 := (rv.keep R1 k2).keep R2 k3
    have hq3 := hq.from_ ((k1.trans k2).trans k3)
    cases d with
    | tup ds =>
      cases rv3 with
      | tup sq rr =>
        refine .inl ⟨_, _, rfl, sq, fun hw => ?_, fun hw p hp => hq3.tup h3 (rr.cut l u) R3 hp⟩
        have h3' : Qc (.tup (cutD ds l u)) C3 := h3
        rw [sIx_whole hw ds rr.length] at h3'
        exact hq3.now h3' (.tup sq rr) R3
    | str z =>
      cases rv3
      exact .inr (.inr ⟨z, rfl, h3.1, hq3.now h3.2 (.str _) R3⟩)
    | ref p =>
      cases rv3
      obtain ⟨ds, hl, q⟩ := h3
      obtain ⟨vs, sq, rr⟩ := R3.ls hl
      exact .inr (.inl ⟨p, vs, rfl, sq, fun p' hp => hq3.lst (rr.cut l u) R3 hp (q p' (free_of R3 hp))⟩)
    | _ => exact h3.elim⟩⟩⟩
noncomputable abbrev OM := D → List D → CH → Kv → Prop
noncomputable def LkM (K : PySem.W.Frag) (cl : ClsT) (r : V → List V → Hp → VK → Prop) (o : OM) : Prop := ∀ H C d v ds vs Q Qc, Rep K H d v → RepL K H ds vs → Rel K cl H C → o d ds C Qc → EndE K cl H C Qc Q → r v vs H Q
noncomputable def LkTy (K : PySem.W.Frag) (cl : ClsT) (T : String) (ty : D → CH → Prop) : Prop := ∀ H C d v, Rep K H d v → Rel K cl H C → ty d C → tyV K T v H
noncomputable def cMt (ty : D → CH → Prop) (o : OM) (co : CTE) (ca : CTA) : CTE := fun σ C Q => co σ C fun d C1 => ty d C1 ∧ ca σ C1 fun ds C2 => o d ds C2 Q
noncomputable def isLst (d : D) (C : CH) : Prop := ∃ p xs, d = .ref p ∧ LsC C p xs
noncomputable def isStr (d : D) (_ : CH) : Prop := ∃ z, d = .str z
theorem lkTy_lst {K : PySem.W.Frag} : LkTy K cl "list" isLst := fun H C d v r R ⟨p, xs, e, h⟩ => by
  subst e; cases r
  obtain ⟨vs, h1, _⟩ := R.ls h
  exact .inl ⟨rfl, vs, h1⟩
theorem lkTy_str {K : PySem.W.Frag} : LkTy K cl "str" isStr := fun H C d v r R ⟨z, e⟩ => by subst e; cases r; exact rfl
theorem few_of {env : Env} {pos : Pos} (h : es.all notStar = true) (hl : es.length < 30) : ((backTo pos (starEach es env)).all (fun x => !x.1) && (backToKw pos (keywordEach [] env)).all (fun x => x.1.isSome)
      && decide (es.length + ([] : List Keyword).length + (if ([] : List Keyword).isEmpty then 0 else 1) < 30)) = true := by
  have e1 : (backTo pos (starEach es env)).all (fun x => !x.1) = true := by
    have := star_any (env := env) (pos := pos) h
    rw [List.all_eq_not_any_not]
    simpa using this
  rw [e1]
  show (true && true && decide (es.length + 0 + 0 < 30)) = true
  rw [decide_eq_true (by omega)]
  rfl
theorem cpe_mt {T id : String} {name : Str} {apos cpos : Pos} {r : V → List V → Hp → VK → Prop} {ty : D → CH → Prop} {om : OM} (pa : PlainAttrs T) (slot : Slot T name id) (hty : typeOf (.builtin id) = pure (.type "method_descriptor")) (hm : MtR X id r)
    (l : LkM X.K cl r om) (lt : LkTy X.K cl T ty) (ho : CPE X cl H0 C0 o co) (ha : CPA X cl H0 C0 es cs) (h0 : es = [] → cs = cNil) (hes : es.all notStar = true) (hl : es.length < 30) (hb : noSuper o = true) (hline : (apos.endLine == cpos.line) = true) :
    CPE X cl H0 C0 (.Call (.Attribute o name apos) es [] cpos) (cMt ty om co cs) := by
  cases es with
  | nil =>
    rw [h0 rfl]
    exact (pe_bm0 pa slot hty hm ho (base_of hb) hline).imp fun σ H Q ⟨σc, C, Qc, S, h, hq⟩ => ⟨σc, C, _, S, h, fun d C1 v H1 ⟨h1, h2⟩ rv R1 k1 => ⟨lt H1 C1 d v rv R1 h1, l H1 C1 d v [] [] Q Qc rv .nil R1 h2 (hq.from_ k1)⟩⟩
  | cons e es =>
    have hes' := hes
    rw [List.all_cons, Bool.and_eq_true] at hes'
    exact (pe_bm pa slot hty hm ho ha (base_of hb) (few_of hes hl) hline (star_of hes'.1) (star_any hes'.2)).imp fun σ H Q ⟨σc, C, Qc, S, h, hq⟩ => ⟨σc, C, _, S, h, fun d C1 v H1 ⟨h1, h2⟩ rv R1 k1 => ⟨lt H1 C1 d v rv R1 h1, σc, C1, _, S.step k1 R1, h2, fun ds C2 vs H2 h3 rs R2 k2 =>
      l H2 C2 d v ds vs Q Qc (rv.keep R1 k2) rs R2 h3 (hq.from_ (k1.trans k2))⟩⟩
noncomputable def oAppend : OM := fun d ds C Q => ∃ p xs y, d = .ref p ∧ ds = [y] ∧ C p = some (.lst xs) ∧ xs.length < sizeLine ∧ Q .non (cup C p (.lst (xs ++ [y])))
theorem lk_append {K : PySem.W.Frag} : LkM K cl rAppend oAppend := fun H C d v ds vs Q Qc r rs R ⟨p, xs, y, h1, h2, h3, h4, q⟩ hq => by
  subst h1; subst h2; cases r
  obtain ⟨u, rfl, ru⟩ := rs.one
  obtain ⟨ws, e1, r1⟩ := R p _ h3
  exact ⟨p, ws, u, rfl, rfl, e1, by rw [← r1.length]; exact h4, hq _ _ _ _ q .non (R.wlst h3 e1 (r1.append (.cons ru .nil))) (Keep.write h3 _ _)⟩
noncomputable def oPopAt : OM := fun d ds C Q => ∃ p xs i k y, d = .ref p ∧ ds = [.int i] ∧ C p = some (.lst xs) ∧ -(2 ^ 63) ≤ i ∧ i < 2 ^ 63 ∧ seqIndex? i xs.length = some k ∧ xs[k]? = some y ∧ Q y (cup C p (.lst (xs.eraseIdx k)))
theorem lk_popAt {K : PySem.W.Frag} : LkM K cl rPopAt oPopAt := fun H C d v ds vs Q Qc r rs R ⟨p, xs, i, k, y, h1, h2, h3, h4, h5, h6, h7, q⟩ hq => by
  subst h1; subst h2; cases r
  obtain ⟨w, rfl, rw'⟩ := rs.one
  cases rw'
  obtain ⟨ws, e1, r1⟩ := R p _ h3
  obtain ⟨u, e2, r2⟩ := r1.get h7
  exact ⟨p, ws, i, k, u, rfl, rfl, e1, h4, h5, by rw [← r1.length]; exact h6, e2, hq _ _ _ _ q (r2.keep R (Keep.write h3 _ (.lst (xs.eraseIdx k)))) (R.wlst h3 e1 (r1.eraseIdx k)) (Keep.write h3 _ _)⟩
noncomputable def oJoin : OM := fun d ds C Q => ∃ a x ys, d = .str a ∧ ds = [x] ∧ SqC C x (ys.map D.str) ∧ (ys.map (·.length)).sum + ys.length * a.length ≤ 16777216 ∧ Q (.str (Txt.join a ys)) C
noncomputable def rJoin (K : PySem.W.Frag) : V → List V → Hp → VK → Prop := fun x xs H Q => ∃ a p, ∃ ys : List Str, x = .str a ∧ xs = [.ref p] ∧ (SqL K H p (ys.map V.str) ∨ SqT K H p (ys.map V.str)) ∧
    (ys.map (·.length)).sum + ys.length * a.length ≤ 16777216 ∧ Q (.str (Txt.join a ys)) H
theorem lk_join {K : PySem.W.Frag} : LkM K cl (rJoin K) oJoin := fun H C d v ds vs Q Qc r rs R ⟨a, x, ys, h1, h2, h3, h4, q⟩ hq => by
  subst h1; subst h2; cases r
  obtain ⟨w, rfl, rw'⟩ := rs.one
  obtain ⟨p, us, rfl, h, rr⟩ := R.sq h3 rw'
  have e := rr.strs
  subst e
  exact ⟨a, p, ys, rfl, rfl, h, h4, hq.now q (.str _) R⟩
theorem lk_allB {K : PySem.W.Frag} : LkL K cl (rAll K) (oAll fun bs => .bl (bs.all id)) := fun H C ds vs Q Qc rs R ⟨p, bs, h1, h2, q⟩ hq => by
  subst h1
  obtain ⟨v, rfl, r⟩ := rs.one
  cases r
  obtain ⟨us, e1, r1⟩ := R.ls h2
  have e2 := r1.bls
  subst e2
  exact ⟨p, bs, rfl, e1, hq.now q (.bl _) R⟩
structure ClsOk (K : PySem.W.Frag) (Ca : Addr) : Prop where
  cls : Cls K Ca
  ha : PySem.W.findIn K (.ref Ca) "__class__" = some (some (.builtin "object.__class__"))
  hn : PySem.W.specialIn K (.builtin "object.__class__") "__get__" = some (some (.builtin "getset_descriptor.__get__"))
  htk : PySem.W.takesIn K (.builtin "object.__class__") = some true
  hm : PySem.W.mroIn K Ca (.type "object") = some true
end
end L3
namespace L3
open PySem L2
section
variable {X : Cx} {cl : ClsT} {H0 : Hp} {C0 : CH} {pos : Pos} {ex : Kxs}
/-- a value's type: a built-in one by name, an own class by number -/
noncomputable def tyC (C : CH) : D → Option (String ⊕ Nat)
  | .non => some (.inl "NoneType")
  | .bl _ => some (.inl "bool")
  | .int _ => some (.inl "int")
  | .str _ => some (.inl "str")
  | .tup _ => some (.inl "tuple")
  | .rls _ => some (.inl "list")
  | .ty _ => none
  | .ref a => match C a with
    | some (.lst _) => some (.inl "list")
    | some (.dic _) => some (.inl "dict")
    | some (.dtk _) => none
    | some (.ins c _) => some (.inr c)
    | none => none
noncomputable def tyVal (cl : ClsT) : String ⊕ Nat → Option Value
  | .inl n => some (.type n)
  | .inr c => (cl c).map .ref
theorem tyC_ok {K : PySem.W.Frag} {H : Hp} {C : CH} {d : D} {v : V} {t : String ⊕ Nat} (hc : ∀ c Ca, t = .inr c → cl c = some Ca → ClsOk K Ca) (r : Rep K H d v) (R : Rel K cl H C) (e : tyC C d = some t) : ∃ u, tyVal cl t = some u ∧ TyX K H v u := by
  cases r with
  | non => cases e; exact ⟨_, rfl, .base .non⟩
  | bl b => cases e; exact ⟨_, rfl, .base (.bl b)⟩
  | int b => cases e; exact ⟨_, rfl, .base (.int b)⟩
  | str b => cases e; exact ⟨_, rfl, .base (.str b)⟩
  | ty n => cases e
  | tup s _ =>
    cases e
    refine ⟨_, rfl, ?_⟩
    rcases s with (s | ⟨o, s⟩) | ⟨o, _, _, h1, h2, _⟩
    · exact .base (.tup s)
    · exact .fTuple s
    · exact .kTuple h1 h2
  | rls s _ =>
    cases e
    refine ⟨_, rfl, ?_⟩
    rcases s with ⟨o, s⟩ | ⟨o, _, _, h1, h2, _⟩
    · exact .base (.frz s)
    · exact .kList h1 h2
  | ref a =>
    unfold tyC at e
    simp only at e
    cases q : C a with
    | none => rw [q] at e; cases e
    | some o =>
      rw [q] at e
      have ok := R a o q
      cases o with
      | lst ds => cases e; obtain ⟨vs, h, _⟩ := ok; exact ⟨_, rfl, .base (.lst h)⟩
      | dic ds => cases e; obtain ⟨vs, h, _⟩ := ok; exact ⟨_, rfl, .base (.dK h)⟩
      | dtk ds => cases e
      | ins c ds =>
        cases e
        obtain ⟨Ca, dx, vs, h0, h, _⟩ := ok
        have k := hc c Ca rfl h0
        exact ⟨.ref Ca, by show (cl c).map Value.ref = _; rw [h0]; rfl, .base (.ins h k.cls k.ha k.hn k.htk k.hm)⟩
/-- isinstance(e, T): kit tells what is of what -/
noncomputable def oIsi (kit : String ⊕ Nat → String ⊕ Nat → Option Bool) (u : String ⊕ Nat) : O1 := fun d C Q => ∃ t b, tyC C d = some t ∧ kit t u = some b ∧ Q (.bl b) C
noncomputable def KitOk (K : PySem.W.Frag) (cl : ClsT) (kit : String ⊕ Nat → String ⊕ Nat → Option Bool) : Prop := ∀ t u b vt, kit t u = some b → tyVal cl t = some vt → ∃ vu, tyVal cl u = some vu ∧ PySem.W.kitOne K vt vu = some b
theorem cpe_isi {kit : String ⊕ Nat → String ⊕ Nat → Option Bool} {u : String ⊕ Nat} {e c : Expr} {ca : CTE} {p : Pos} {vc : V} (hkit : KitOk X.K cl kit) (hcl : ∀ c Ca b, kit (.inr c) u = some b → cl c = some Ca → ClsOk X.K Ca) (he : CPE X cl H0 C0 e ca) (hc : PE X c (tC vc)) (hcv : ∀ w, tyVal cl u = some w → ClsV vc w) (hg : Gl X "isinstance") (hm : X.mg "isinstance" = none)
    (h1 : notStar e = true) (h2 : notStar c = true) : CPE X cl H0 C0 (.Call (.Name "isinstance" p) [e, c] [] pos) (cUn (oIsi kit u) ca) :=
  (pe_callB call_isi hg hm (by decide +kernel) (pa_cons he (pa_cons hc pa_nil (star_of h2)) (star_of h1)) (by decide) (by decide) (star_of h1) (star_any (by simp [h2]))).imp fun σ H Q ⟨σc, C, Qc, S, h, hq⟩ => ⟨σc, C, _, S, h, fun d C1 v H1 ⟨t, b, e1, e2, q⟩ rv R1 k1 => by
    obtain ⟨w, e3, ty⟩ := tyC_ok (fun c Ca z hc' => hcl c Ca b (by rw [← z]; exact e2) hc') rv R1 e1
    obtain ⟨wu, e4, e5⟩ := hkit t u b w e2 e3
    exact ⟨v, vc, w, wu, b, rfl, hcv wu e4, ty, e5, (hq.from_ k1).now q (.bl b) R1⟩⟩
/-- raise X("..") of an own class without __init__ -/
noncomputable def sRaise (c : Nat) (ex : Kxs) : CTS := fun _ σ C => ex ⟨c, []⟩ σ C
theorem cps_raise {c : Nat} {Ca : Addr} {bmB : List Value} {B newId initId : String} {x m : Str} {j : Nat} {p p2 pos' : Pos} (hc : cl c = some Ca) (F : ExcBaseFacts B newId initId bmB) (q : PySem.W.excIn X.K Ca bmB newId = true) (gC : X.mg x = some (.ref Ca)) (kC : PySem.W.keepIn X.K (.ref Ca) = true) (r : Raises X (.ref Ca)) (hg : Gl X x)
    (hdb : (x == ("__debug__" : Str)) = false) (hcalm : X.calm = true) (tk : Takes X (WC X.K cl H0 C0 ex)) : CPS X cl H0 C0 (.Raise (some (.Call (.Name x p) [.Constant (.str m) j p2] [] pos')) none pos) (sRaise c ex) :=
  (ps_raise hcalm tk (pmk_own F q gC kC r hg hdb)).imp fun D σ H ⟨σc, C, Dc, S, h, hq⟩ => ⟨_, σc, C, h, ⟨Ca, hc, rfl, .inl ⟨rfl, rfl⟩⟩, S⟩
/-- every class of the program that is raised is told apart by the clause -/
noncomputable def SubOk (K : PySem.W.Frag) (cl : ClsT) (c : Value) (sub : Nat → Bool) : Prop := ∀ i Ca, cl i = some Ca → PySem.W.exmOne K (.ref Ca) c = some (sub i)
end
noncomputable def start3 (N : List Str) (ds : List D) : Env3 := ds.map some ++ List.replicate (N.length - ds.length) none
theorem start_rep {K : PySem.W.Frag} {H : Hp} {N : List Str} {ds : List D} {vs : List V} (r : RepL K H ds vs) : RepS K H (start3 N ds) (L2.start N vs) := by
  unfold start3 L2.start
  rw [r.length]
  have tail : ∀ n : Nat, RepS K H (List.replicate n none) (List.replicate n none) := by
    intro n
    induction n with
    | zero => exact .nil
    | succ n ih => rw [List.replicate_succ, List.replicate_succ]; exact .no ih
  have go : ∀ {ds : List D} {vs : List V} {n : Nat}, RepL K H ds vs → RepS K H (ds.map some ++ List.replicate n none) (vs.map some ++ List.replicate n none) := by
    intro ds
    induction ds with
    | nil => intro vs n r; cases r; exact tail n
    | cons d ds ih =>
      intro vs n r
      cases r with
      | cons r t => exact .so r (ih t)
  exact go r
/-- what the clean rules ask of a context -/
structure XOk (P : Program) (w : World) (K : PySem.W.Frag) (mg : Str → Option Value) (base : Heap) (tb : List LamR) (n : Nat) (N : List Str) (sc : Scope) (top : Bool) (X : Cx) : Prop where
  P_ : X.prog = P
  w_ : X.w = w
  K_ : X.K = K
  mg_ : X.mg = mg
  base_ : X.base = base
  N_ : X.N = N
  nd : N.Nodup
  sc_ : X.env.scope = sc
  kind : sc.kind = .function
  calm : X.calm = true
  room : Room n X.A
  loc : top = true → ∀ x, Loc sc x → X.fn x = true ∨ sc.names.lookup x = some .local
  po : PassesOwn (model X.prog X.w) X.A X.env X.xe
  gd : X.A.guards = some []
  fr : top = true → X.stack = X.env :: X.outer ∧ X.env.frame = some X.env.locals
  tab : ∀ r ∈ tb, r.names = sc.names → X.env.code = .ref r.c ∧ LamX.TabB X.base X.mg r.c r.P ∧ X.env.qual ++ "<lambda>" = r.q
end L3
namespace L3
open PySem L2 PySem.Spec PyProof.Rows
noncomputable def deepOk (p : PyData) : Bool := p.canLay0 && decide (p.depth ≤ 350)
noncomputable def oEqN (f : Bool → Bool) : O2 := fun x y C Q => ∃ p q, Snap C x p ∧ Snap C y q ∧ deepOk p = true ∧ deepOk q = true ∧ Q (.bl (f (PyData.eqv p q))) C
noncomputable def rEqN (f : Bool → Bool) (K : PySem.W.Frag) : R2 := fun x y H Q => ∃ d e, Dp K H x d ∧ Dp K H y e ∧ deepOk d = true ∧ deepOk e = true ∧ Q (.bl (f (PyData.eqv d e))) H
section
variable {X : Cx} {cl : ClsT} {K : PySem.W.Frag}
theorem op_eqN (hu : X.A.units + 350 < cLine) : OpR X (compareOp .Eq) (rEqN id X.K) := by
  intro pins s σ H x y v u Q I rx ry h
  obtain ⟨d, e, hd, he, sd, se, q⟩ := h
  obtain ⟨as, r1⟩ := Dp.reads I d x v hd rx
  obtain ⟨bs, r2⟩ := Dp.reads I e y u he ry
  unfold deepOk at sd se
  simp only [Bool.and_eq_true, decide_eq_true_eq] at sd se
  have h2 : min d.depth e.depth ≤ d.depth := Nat.min_le_left _ _
  exact SeqAt.compareEq_reads r1 r2 sd.1 se.1 (by omega) ⟨.bl _, H, I, rfl, q⟩
theorem op_neN (hu : X.A.units + 350 < cLine) : OpR X (compareOp .NotEq) (rEqN not X.K) := by
  intro pins s σ H x y v u Q I rx ry h
  obtain ⟨d, e, hd, he, sd, se, q⟩ := h
  obtain ⟨as, r1⟩ := Dp.reads I d x v hd rx
  obtain ⟨bs, r2⟩ := Dp.reads I e y u he ry
  unfold deepOk at sd se
  simp only [Bool.and_eq_true, decide_eq_true_eq] at sd se
  have h2 : min d.depth e.depth ≤ d.depth := Nat.min_le_left _ _
  exact SeqAt.compareNe_reads r1 r2 sd.1 se.1 (by omega) ⟨.bl _, H, I, rfl, q⟩
theorem lk_eqN (f : Bool → Bool) : Lk2 K cl (rEqN f K) (oEqN f) := fun H C d e v u Q Qc rd re R ⟨p, q, h1, h2, h3, h4, h5⟩ hq => ⟨p, q, h1.dp R rd, h2.dp R re, h3, h4, hq.now h5 (.bl _) R⟩
noncomputable def oMulT : O2 := fun x y C Q => ∃ xs k, x = .tup xs ∧ y = .int k ∧ xs ≠ [] ∧ 0 ≤ k ∧ k ≤ 10000 ∧ xs.length ≤ 1000 ∧ Q (.tup (List.replicate k.toNat xs).flatten) C
theorem RepL.rep {H : Hp} {ds : List D} {vs : List V} (r : RepL K H ds vs) : ∀ n : Nat, RepL K H (List.replicate n ds).flatten (List.replicate n vs).flatten
  | 0 => .nil
  | n + 1 => by
    rw [List.replicate_succ, List.replicate_succ, List.flatten_cons, List.flatten_cons]
    exact r.append (RepL.rep r n)
theorem tuple_mul1 (l : Addr) (items : Array Value) (n : Nat) (dd : Option Addr) (sl : Array (Option Value)) (x : Int) (u : Tok) (hx : x = 1) (c0 : (decide (x < -(2 ^ 63)) || decide (x ≥ 2 ^ 63)) = false) (c1 : (items.isEmpty || x == 1) = true) :
    Meets (Builtin.«tuple.__mul__» ⟨[.ref l, .int x u], []⟩) (fun _ R s => s.heap.get? l = some { cls := .type "tuple", dict := dd, data := .seq items n, slots := sl } ∧ R (.ok (.ret (Value.ref l))) s) :=
  .of_wp fun prog w A R s h => by
    obtain ⟨hp, g, d, tk, os⟩ := s
    obtain ⟨hl, h⟩ := h
    have f1 := AutoSeq1.idx_int
    wp_walk using AutoSeq1.wpAny_loadPart' hl
    repeat (first
      | (refine wpAny_ite_false (decide_eq_false (by rw [c0]; exact Bool.false_ne_true)) ?_; wp_walk using AutoSeq1.wpAny_loadPart' hl)
      | (refine wpAny_ite_true (decide_eq_true c1) ?_; wp_walk using AutoSeq1.wpAny_loadPart' hl))
    exact ⟨_, rfl, h⟩
theorem tuple_mul0 (l : Addr) (items : Array Value) (n : Nat) (dd : Option Addr) (sl : Array (Option Value)) (x : Int) (u : Tok) (hx : x = 0) (hi : items.isEmpty = false) :
    Meets (Builtin.«tuple.__mul__» ⟨[.ref l, .int x u], []⟩) (fun _ R s => s.heap.get? l = some { cls := .type "tuple", dict := dd, data := .seq items n, slots := sl } ∧
      R (.ok (.ret (Value.ref s.heap.objs.size))) { s with heap := s.heap.push { cls := Value.type "tuple", data := Data.seq #[] }, toks := s.toks }) :=
  .of_wp fun prog w A R s h => by
    obtain ⟨hp, g, d, tk, os⟩ := s
    obtain ⟨hl, h⟩ := h
    have f1 := AutoSeq1.idx_int
    have c0 : (decide (x < -(2 ^ 63)) || decide (x ≥ 2 ^ 63)) = false := by subst hx; decide
    have c1 : (items.isEmpty || x == 1) = false := by subst hx; rw [hi]; rfl
    have c2 : (decide (x ≤ 0) || items.isEmpty) = true := by subst hx; rfl
    wp_walk using AutoSeq1.wpAny_loadPart' hl
    repeat (first
      | (refine wpAny_ite_false (decide_eq_false (by rw [c0]; exact Bool.false_ne_true)) ?_; wp_walk using AutoSeq1.wpAny_loadPart' hl)
      | (refine wpAny_ite_false (decide_eq_false (by rw [c1]; exact Bool.false_ne_true)) ?_; wp_walk using AutoSeq1.wpAny_loadPart' hl)
      | (refine wpAny_ite_true (decide_eq_true c2) ?_; wp_walk using AutoSeq1.wpAny_loadPart' hl))
    exact ⟨_, rfl, h⟩
noncomputable def rRepU (K : PySem.W.Frag) : R2 := fun x y H Q => ∃ l k xs, x = .ref l ∧ y = .int k ∧ SqT K H l xs ∧ xs ≠ [] ∧ k ≤ 10000 ∧ xs.length ≤ 1000 ∧ ((k = 1 ∧ Q (.ref l) H) ∨ ((2 ≤ k ∧ ∀ p, H p = none → Q (.ref p) (upd H p (.tup (List.replicate k.toNat xs).flatten))) ∨ (k = 0 ∧ ∀ p, H p = none → Q (.ref p) (upd H p (.tup [])))))
theorem op_repU : OpR X (binaryOp .Mult) (rRepU X.K) := by
  intro pins s σ H x y v u Q I rx ry h
  obtain ⟨l, k, xs, ex, ey, hT, hne, h2, hz, ⟨hk, q⟩ | ⟨hk, q⟩ | ⟨hk, q⟩⟩ := h
  · subst ex ey
    cases rx
    obtain ⟨t, rfl⟩ := ry
    obtain ⟨its, r, ⟨⟨cls, dd, data, sl⟩, ho, hc, n, hd⟩, hs⟩ := I.tuple hT
    simp only at hc hd
    subst hc hd
    have c0 : (decide (k < -(2 ^ 63)) || decide (k ≥ 2 ^ 63)) = false := by subst hk; decide
    have c1 : (its.toArray.isEmpty || k == 1) = true := by subst hk; simp
    refine wpAny_binaryOp_repeat_ref (T := "tuple") (U := "int") (by decide) ⟨_, ho, rfl⟩ (fun s' => typeIs_int s' k t) noFill_tuple_mul F.fills_int_mul F.slot_int_rmul repeat_tuple F.slot_int_index.lookup
      (call_meets F.slot_int_rmul (typeIs_int s k t) F.entry_int_rmul (F.args_int_rmul_2 _ _) (int_rmul_tuple k t l its.toArray n dd sl)
        ⟨ho, rfl, ⟨_, ho, rfl⟩, call_meets F.slot_tuple_mul ⟨_, ho, rfl⟩ F.entry_tuple_mul (F.args_tuple_mul_2 _ _) (tuple_mul1 l its.toArray n dd sl k t hk c0 c1) ⟨ho, ?_⟩⟩)
    exact ⟨.ref l, H, I, rfl, q⟩
  · subst ex ey
    cases rx
    obtain ⟨t, rfl⟩ := ry
    obtain ⟨its, r, ⟨⟨cls, dd, data, sl⟩, ho, hc, n, hd⟩, hs⟩ := I.tuple hT
    simp only at hc hd
    subst hc hd
    have lI : its.length = xs.length := r.length.symm
    have l0 : its ≠ [] := fun z => hne (List.eq_nil_of_length_eq_zero (by rw [← lI, z]; rfl))
    have nE : its.toArray.isEmpty = false := by cases its <;> first | exact absurd rfl l0 | rfl
    have sz : its.toArray.size = xs.length := by rw [← lI]; rfl
    have prd : k.toNat * xs.length ≤ 10000 * 1000 := Nat.mul_le_mul (by omega) hz
    have prI : ((its.toArray.size : Nat) : Int) * k ≤ 10000000 := by
      have e : ((its.toArray.size : Nat) : Int) * k = ((k.toNat * xs.length : Nat) : Int) := by
        rw [sz, Int.mul_comm, Int.natCast_mul, Int.toNat_of_nonneg (by omega)]
      omega
    have sl0 : 10000000 ≤ sizeLine := by decide
    have q0 : (decide (k < -(2 ^ 63)) || decide (k ≥ 2 ^ 63)) = false := by simp only [Bool.or_eq_false_iff, decide_eq_false_iff_not]; omega
    have q1 : (its.toArray.isEmpty || k == 1) = false := by rw [nE]; simp; omega
    have q2 : (decide (k ≤ 0) || its.toArray.isEmpty) = false := by rw [nE]; simp; omega
    have q4 : Builtin.Tuple.tupleTooMany (((its.toArray.size : Nat) : Int) * k) = false := by unfold Builtin.Tuple.tupleTooMany; exact decide_eq_false (by omega)
    have fl : (List.replicate k.toNat its).flatten.length ≤ sizeLine := by rw [PyProof.Rows.lm_len_rep_flat, lI]; omega
    refine wpAny_binaryOp_repeat_ref (T := "tuple") (U := "int") (by decide) ⟨_, ho, rfl⟩ (fun s' => typeIs_int s' k t) noFill_tuple_mul F.fills_int_mul F.slot_int_rmul repeat_tuple F.slot_int_index.lookup
      (call_meets F.slot_int_rmul (typeIs_int s k t) F.entry_int_rmul (F.args_int_rmul_2 _ _) (int_rmul_tuple k t l its.toArray n dd sl)
        ⟨ho, rfl, ⟨_, ho, rfl⟩, call_meets F.slot_tuple_mul ⟨_, ho, rfl⟩ F.entry_tuple_mul (F.args_tuple_mul_2 _ _) (tuple_mulW l its.toArray n dd sl k t q0 q1 q2 (by omega) q4 (by rw [size_rep]; exact fl)) ⟨ho, ?_⟩⟩)
    rw [size_rep]
    refine ⟨.ref s.heap.objs.size, _, I.laid (t' := s.toks) (o := .tup (List.replicate k.toNat xs).flatten) (fun b ob q => Heap.get?_push_of_some _ q) (Nat.le_refl _) ?_, rfl, q _ (I.hok.fresh (Nat.le_refl _))⟩
    exact ⟨by rw [PyProof.Rows.lm_len_rep_flat]; omega, _, r.rep k.toNat, IsTup.new _ _⟩
  · subst ex ey
    cases rx
    obtain ⟨t, rfl⟩ := ry
    obtain ⟨its, r, ⟨⟨cls, dd, data, sl⟩, ho, hc, n, hd⟩, hs⟩ := I.tuple hT
    simp only at hc hd
    subst hc hd
    have hle : its.length = xs.length := r.length.symm
    have hi : its.toArray.isEmpty = false := by
      cases its with
      | nil => exact absurd (List.eq_nil_of_length_eq_zero hle.symm) hne
      | cons a b => rfl
    refine wpAny_binaryOp_repeat_ref (T := "tuple") (U := "int") (by decide) ⟨_, ho, rfl⟩ (fun s' => typeIs_int s' k t) noFill_tuple_mul F.fills_int_mul F.slot_int_rmul repeat_tuple F.slot_int_index.lookup
      (call_meets F.slot_int_rmul (typeIs_int s k t) F.entry_int_rmul (F.args_int_rmul_2 _ _) (int_rmul_tuple k t l its.toArray n dd sl)
        ⟨ho, rfl, ⟨_, ho, rfl⟩, call_meets F.slot_tuple_mul ⟨_, ho, rfl⟩ F.entry_tuple_mul (F.args_tuple_mul_2 _ _) (tuple_mul0 l its.toArray n dd sl k t hk hi) ⟨ho, ?_⟩⟩)
    refine ⟨.ref s.heap.objs.size, _, I.laid (t' := s.toks) (o := .tup []) (fun b ob q => Heap.get?_push_of_some _ q) (Nat.le_refl _) ?_, rfl, q _ (I.hok.fresh (Nat.le_refl _))⟩
    exact ⟨Nat.zero_le _, [], .nil, IsTup.new _ _⟩
theorem lk_mulT : Lk2 K cl (rRepU K) oMulT := fun H C d e v u Q Qc rd re R ⟨xs, k, h1, h2, h3, h4, h5, h6, q⟩ hq => by
  subst h1; subst h2
  cases re
  cases rd with
  | tup s r =>
    refine ⟨_, k, _, rfl, rfl, s, fun z => by subst z; cases r; exact h3 rfl, h5, by rw [← r.length]; exact h6, ?_⟩
    by_cases hk : k = 1
    · refine .inl ⟨hk, ?_⟩
      subst hk
      have e : (List.replicate (1 : Int).toNat xs).flatten = xs := by simp
      rw [e] at q
      exact hq.now q (.tup s r) R
    · by_cases h0 : k = 0
      · refine .inr (.inr ⟨h0, fun p hp => ?_⟩)
        subst h0
        exact hq.tup q (.nil) R hp
      · exact .inr (.inl ⟨by omega, fun p hp => hq.tup q (r.rep _) R hp⟩)
/-- int * int, tuple * int -/
noncomputable def repS (z : Str) (n : Nat) : Str := ⟨(List.replicate n z.cps).foldl (· ++ ·) #[]⟩
noncomputable def oMulA : O2 := fun x y C Q => match x, y with
  | .str z, .int k => 0 ≤ k ∧ k ≤ 10000 ∧ z.length ≤ 1000 ∧ Q (.str (repS z k.toNat)) C
  | .int i, .int j => CMul i j ∧ Q (.int (i * j)) C
  | .tup xs, .int k => xs ≠ [] ∧ 0 ≤ k ∧ k ≤ 10000 ∧ xs.length ≤ 1000 ∧ Q (.tup (List.replicate k.toNat xs).flatten) C
  | .ref a, .int k => ∃ xs, C a = some (.lst xs) ∧ -(2 ^ 63) ≤ k ∧ k < 2 ^ 63 ∧ xs.length * k.toNat ≤ sizeLine ∧ ∀ p, C p = none → Q (.ref p) (cup C p (.lst (List.replicate k.toNat xs).flatten))
  | _, _ => False
variable {H0 : Hp} {C0 : CH} {pos : Pos}
noncomputable def sPar3 (i j l : Nat) (a : CTA) : CTS := fun D σ C => a σ C fun ds C1 => ∃ d e f, ds = [d, e, f] ∧ D.nx (((σ.set i (some d)).set j (some e)).set l (some f)) C1
theorem cps_par3 {i j l : Nat} {x y z : Str} {a b c : Expr} {cs : CTA} {px py pz pt : Pos} {kt k2 pt2} (hc : X.calm = true) (hN : X.N.Nodup) (hi : X.N[i]? = some x) (hj : X.N[j]? = some y) (hl : X.N[l]? = some z) (hij : i ≠ j) (hil : i ≠ l) (hjl : j ≠ l)
    (hx : X.env.scope.names.lookup x = some .local) (hy : X.env.scope.names.lookup y = some .local) (hz : X.env.scope.names.lookup z = some .local) (ha : CPA X cl H0 C0 [a, b, c] cs)
    (hw : swappedStores [.Tuple [.Name x px, .Name y py, .Name z pz] kt pt] (.Tuple [a, b, c] k2 pt2) X.env = pure (some [x, y, z]))
    (hs : swapsWithSole [.Tuple [.Name x px, .Name y py, .Name z pz] kt pt] (.Tuple [a, b, c] k2 pt2) pos.line X.env = pure false) :
    CPS X cl H0 C0 (.Assign [.Tuple [.Name x px, .Name y py, .Name z pz] kt pt] (.Tuple [a, b, c] k2 pt2) pos) (sPar3 i j l cs) :=
  (ps_par3 hc hN hi hj hl hij hil hjl hx hy hz ha hw hs).imp fun D σ H ⟨σc, C, Dc, S, h, hq⟩ => ⟨σc, C, _, S, h, fun ds C1 vs H1 ⟨d, e, f, h1, h2⟩ rs R1 k1 => by
    subst h1
    cases rs with
    | cons r1 t =>
      obtain ⟨u, w, rfl, r2, r3⟩ := t.two
      exact ⟨_, u, w, rfl, hq.nx _ _ _ _ h2 ((((S.s.keep S.r k1).set r1 i).set r2 j).set r3 l) R1 k1⟩⟩
end
end L3
namespace L3
open PySem L2 PySem.Spec PyProof.Rows
section
variable {X : Cx} {cl : ClsT} {H0 : Hp} {C0 : CH} {K : PySem.W.Frag} {H : Hp} {C : CH} {pins : List (Addr × Obj)} {σ : L2.St} {s : Shared}
mutual
theorem nested_of (I : Inv X pins σ H s) : ∀ (d : D) (v : V) (u : Value) (k : NestedKey), Rep X.K H d v → RelV v u → keyT d = some k → NestedIs s.heap k u
  | .non, v, u, k, h, r, e => by cases h; cases r; simp only [keyT, Option.some.injEq] at e; subst e; exact .none
  | .bl b, v, u, k, h, r, e => by cases h; cases r; simp only [keyT, Option.some.injEq] at e; subst e; exact .bool rfl
  | .int b, v, u, k, h, r, e => by cases h; obtain ⟨t, rfl⟩ := r; simp only [keyT, Option.some.injEq] at e; subst e; exact .int _ _
  | .str b, v, u, k, h, r, e => by cases h; obtain ⟨t, rfl⟩ := r; simp only [keyT, Option.some.injEq] at e; subst e; exact .text _ _
  | .tup ds, v, u, k, h, r, e => by
    cases h with
    | tup sq rr =>
      cases r
      simp only [keyT] at e
      cases q : keysT ds with
      | none => rw [q] at e; cases e
      | some ks =>
        rw [q] at e
        simp only [Option.some.injEq] at e
        subst e
        obtain ⟨its, rv, ⟨o, ho, hc, n, hd⟩, _⟩ := I.tuple sq
        exact .tup ho hc hd (by simpa using nesteds_of I ds _ _ _ rr rv q)
  | .ty _, v, u, k, h, r, e => by simp only [keyT] at e; cases e
  | .rls _, v, u, k, h, r, e => by simp only [keyT] at e; cases e
  | .ref _, v, u, k, h, r, e => by simp only [keyT] at e; cases e
theorem nesteds_of (I : Inv X pins σ H s) : ∀ (ds : List D) (vs : List V) (us : List Value) (ks : List NestedKey), RepL X.K H ds vs → Vals vs us → keysT ds = some ks → NestedAll s.heap ks us
  | [], vs, us, ks, h, r, e => by cases h; cases r; simp only [keysT, Option.some.injEq] at e; subst e; exact .nil
  | d :: ds, vs, us, ks, h, r0, e => by
    cases h with
    | cons r t =>
      cases r0 with
      | cons rv rt =>
        simp only [keysT] at e
        cases q : keyT d with
        | none => rw [q] at e; cases e
        | some k =>
          cases q2 : keysT ds with
          | none => rw [q, q2] at e; cases e
          | some ks =>
            rw [q, q2] at e
            simp only [Option.some.injEq] at e
            subst e
            exact .cons (nested_of I d _ _ _ r rv q) (nesteds_of I ds _ _ _ t rt q2)
end
/-- the tuple at b is the key k -/
noncomputable def KeyAt (K : PySem.W.Frag) (H : Hp) (k : NestedKey) (b : Addr) : Prop := k.depth ≤ 8 ∧ ∃ t, keyT t = some k ∧ Rep K H t (.ref b)
theorem KeyAt.is (I : Inv X pins σ H s) {k : NestedKey} {b : Addr} (h : KeyAt X.K H k b) : (nestedKind X.prog X.w).is s.heap k b := by
  obtain ⟨h1, t, h2, h3⟩ := h
  exact ⟨nested_of I t _ _ _ h3 rfl h2, h1⟩
noncomputable def valT (kvs : List (NestedKey × D)) (k : NestedKey) : Option D := (kvs.find? fun kv => decide (kv.1 = k)).map (·.2)
noncomputable def putT (kvs : List (NestedKey × D)) (k : NestedKey) (v : D) : List (NestedKey × D) := if (valT kvs k).isSome = true then kvs.map (fun kv => if kv.1 = k then (kv.1, v) else kv) else kvs ++ [(k, v)]
theorem RepK.val {ds : List (NestedKey × D)} {xs : List (NestedKey × Addr × Value)} (h : RepK K H ds xs) (k : NestedKey) : (∀ d, valT ds k = some d → ∃ b u v, atKey xs k = some (b, u) ∧ Rep K H d v ∧ RelV v u) ∧ (valT ds k = none → atKey xs k = none) := by
  unfold valT atKey
  induction h with
  | nil => exact ⟨fun d e => by simp at e, fun _ => rfl⟩
  | @cons k' t d' b v' u ds xs e z rt r q _ ih =>
    by_cases hk : k' = k
    · subst hk
      simp only [List.find?_cons, decide_true, Option.map_some]
      exact ⟨fun d e => ⟨b, u, v', rfl, by cases e; exact r, q⟩, fun e => nomatch e⟩
    · simp only [List.find?_cons, decide_eq_false hk]
      exact ih
theorem RepK.isSome {ds : List (NestedKey × D)} {xs : List (NestedKey × Addr × Value)} (h : RepK K H ds xs) (k : NestedKey) : (atKey xs k).isSome = (valT ds k).isSome := by
  cases e : valT ds k with
  | none => rw [(h.val k).2 e]; rfl
  | some d => obtain ⟨b, u, v, e1, _⟩ := (h.val k).1 d e; rw [e1]; rfl
theorem RepK.put {ds : List (NestedKey × D)} {xs : List (NestedKey × Addr × Value)} (h : RepK K H ds xs) {k : NestedKey} {t d : D} {b : Addr} {v : V} {u : Value} (e : keyT t = some k) (z : k.depth ≤ 8) (rt : Rep K H t (.ref b)) (r : Rep K H d v) (q : RelV v u) : RepK K H (putT ds k d) (storedH xs k b u) := by
  unfold putT storedH
  rw [h.isSome k]
  split
  · rename_i hc
    clear hc
    induction h with
    | nil => exact .nil
    | @cons k' t' d' b' v' u' ds xs e' z' rt' r' q' _ ih =>
      rw [List.map_cons, List.map_cons]
      unfold putAt
      by_cases hk : k' = k
      · rw [if_pos hk, if_pos hk]; exact .cons e' z' rt' r q ih
      · rw [if_neg hk, if_neg hk]; exact .cons e' z' rt' r' q' ih
  · rename_i hc
    clear hc
    induction h with
    | nil => exact .cons e z rt r q .nil
    | cons e' z' rt' r' q' _ ih => exact .cons e' z' rt' r' q' ih
end
end L3
namespace L3
open PySem L2 PySem.Spec PyProof.Rows
section
variable {X : Cx} {cl : ClsT} {H0 : Hp} {C0 : CH} {e : Expr} {ca : CTE}
theorem cpe_nev : CPE X cl H0 C0 e fun _ _ _ => False := ⟨fun _ _ _ _ _ _ ⟨_, _, _, _, h, _⟩ => h.elim⟩
mutual
theorem snap_noDict {C : CH} : ∀ {d : D} {p : PyData}, Snap C d p → p.hasDict = false
  | _, _, .non => rfl
  | _, _, .bl _ => rfl
  | _, _, .int _ => rfl
  | _, _, .str _ => rfl
  | _, _, .tup t => by simp only [PyData.hasDict]; exact snaps_noDict t
  | _, _, .rls t => by simp only [PyData.hasDict]; exact snaps_noDict t
  | _, _, .lst _ t => by simp only [PyData.hasDict]; exact snaps_noDict t
theorem snaps_noDict {C : CH} : ∀ {d : List D} {p : List PyData}, SnapL C d p → PyData.hasDictAll p = false
  | _, _, .nil => rfl
  | _, _, .cons a b => by simp only [PyData.hasDictAll, snap_noDict a, snaps_noDict b]; rfl
end
noncomputable def rRepr (K : PySem.W.Frag) : List V → Hp → VK → Prop := fun xs H Q => ∃ x p, xs = [x] ∧ Dp K H x p ∧ p.hasDict = false ∧ p.showable = true ∧ p.shown.length ≤ sizeLine ∧ p.depth ≤ 350 ∧ Q (.str p.shown) H
theorem call_reprA (hg : X.A.guards = some []) (hu : X.A.units + 352 < cLine) : CallR X (.builtin "repr") (rRepr X.K) := by
  intro pins s σ H xs us Q I r h
  obtain ⟨x, p, rfl, hd, hn, hs, hl, hp, q⟩ := h
  cases r with
  | cons r0 t =>
  cases t
  cases hd with
  | non =>
    cases r0
    simp only [PyData.shown] at q
    exact PySem.P.repr_of_none ⟨.str _, H, I.tok _, ⟨_, rfl⟩, q⟩
  | bl b =>
    cases r0
    simp only [PyData.shown] at q
    exact PySem.P.repr_of_bool ⟨.str _, H, I.tok _, ⟨_, rfl⟩, q⟩
  | int i =>
    obtain ⟨t, rfl⟩ := r0
    simp only [PyData.shown] at q
    exact PySem.P.repr_of_int (by simpa [PyData.showable] using hs) ⟨.str _, H, I.tok _, ⟨_, rfl⟩, q⟩
  | str z =>
    obtain ⟨t, rfl⟩ := r0
    simp only [PyData.shown] at q hl
    exact PySem.P.repr_of_str ⟨.str _, H, I.tok _, ⟨_, rfl⟩, q⟩ hl
  | lst sq t =>
    cases r0
    obtain ⟨as, rd⟩ := Dp.reads I _ _ _ (.lst sq t) rfl
    exact repr_of_reads' rd hs (fun z => by rw [hn] at z; cases z) hg (by omega) (fun _ _ e => e) (fun h' u tk hk => ⟨.str _, H, I.kept hk, ⟨_, rfl⟩, q⟩) hl
  | tup sq t =>
    cases r0
    obtain ⟨as, rd⟩ := Dp.reads I _ _ _ (.tup sq t) rfl
    exact repr_of_reads' rd hs (fun z => by rw [hn] at z; cases z) hg (by omega) (fun _ _ e => e) (fun h' u tk hk => ⟨.str _, H, I.kept hk, ⟨_, rfl⟩, q⟩) hl
noncomputable def oRepr : OL := fun xs C Q => ∃ x p, xs = [x] ∧ Snap C x p ∧ p.showable = true ∧ p.shown.length ≤ sizeLine ∧ p.depth ≤ 350 ∧ Q (.str p.shown) C
theorem lk_repr {K : PySem.W.Frag} : LkL K cl (rRepr K) oRepr := fun H C ds vs Q Qc rs R ⟨x, p, h1, h2, h3, h4, h5, q⟩ hq => by
  subst h1
  obtain ⟨v, rfl, r⟩ := rs.one
  exact ⟨v, p, rfl, h2.dp R r, snap_noDict h2, h3, h4, h5, hq.now q (.str _) R⟩
end
end L3
namespace L3
open PySem L2 PySem.Spec PyProof.Rows
/-- a class with an __eq__ of its own, and no __ne__ -/
structure OwnE (K : PySem.W.Frag) (Ca f : Addr) : Prop where
  eq : PySem.W.findIn K (.ref Ca) "__eq__" = some (some (.ref f))
  fn : PySem.W.isFn K (.ref f) = true
  ne : PySem.W.findIn K (.ref Ca) "__ne__" = some (some (.builtin "object.__ne__"))
  ob : PySem.W.mroIn K Ca (.type "object") = some true
end L3
namespace L3N
open PySem PySem.Spec PyProof.Rows
/-- the pairs that were laid -/
structure ZPairs (h0 h : Heap) (S : Addr) (xs ys : Array Value) (ts : List Addr) : Prop where
  tup : ∀ (j : Nat) (t : Addr), ts[j]? = some t → (∃ x y, xs[j]? = some x ∧ ys[j]? = some y ∧ IsTupOf2 h t x y) ∧ t ≠ S ∧ h0.objs.size ≤ t
  nod : ts.Nodup
  hS : ∃ c, h.get? S = some { cls := .type "list", data := .seq (ts.map Value.ref).toArray c }
  keep : ∀ b o, h0.get? b = some o → h.get? b = some o
structure ZOff (h0 : Heap) (z TI TO i1 i2 S : Addr) (fp1 fp2 : List Addr) : Prop where
  D : ZipSep2 z TI TO i1 i2 fp1 fp2
  Sz : S ≠ z
  STI : S ≠ TI
  STO : S ≠ TO
  S1 : S ∉ fp1
  S2 : S ∉ fp2
  gz : h0.objs.size ≤ z
  gTO : h0.objs.size ≤ TO
  gi1 : h0.objs.size ≤ i1
  gi2 : h0.objs.size ≤ i2
  gS : h0.objs.size ≤ S
section
variable {prog : Program} {w : World} {A : Around} {s : Shared} {h0 h h' : Heap} {z TI TO i1 i2 S : Addr} {fp1 fp2 : List Addr} {St1 St2 : Nat → Heap → Prop} {xs ys : Array Value} {i : Nat} {ts : List Addr}
/-- one more pair in the list -/
theorem ZPairs.push {x y : Value} {t : Addr} (O : ZOff h0 z TI TO i1 i2 S fp1 fp2) (p : ZPairs h0 h S xs ys ts) (hx : xs[ts.length]? = some x) (hy : ys[ts.length]? = some y) (ht : IsTupOf2 h t x y) (htS : t ≠ S) (htn : t ∉ ts) (hg : h0.objs.size ≤ t) :
    ZPairs h0 (h.update S (Obj.mapSeq (·.push (.ref t)))) S xs ys (ts ++ [t]) := by
  obtain ⟨c, hS⟩ := p.hS
  have oth : ∀ b o, b ≠ S → h.get? b = some o → (h.update S (Obj.mapSeq (·.push (.ref t)))).get? b = some o := fun b o hb e => (Heap.get?_update_other _ _ (Ne.symm hb)).trans e
  refine ⟨fun j u e => ?_, ?_, ?_, fun b o e => ?_⟩
  · by_cases hj : j < ts.length
    · rw [List.getElem?_append_left hj] at e
      obtain ⟨⟨x', y', e1, e2, e3⟩, r1, r2⟩ := p.tup j u e
      exact ⟨⟨x', y', e1, e2, oth _ _ r1 e3⟩, r1, r2⟩
    · rw [List.getElem?_append_right (by omega)] at e
      cases hk : j - ts.length with
      | zero =>
        rw [hk] at e
        simp only [List.getElem?_cons_zero, Option.some.injEq] at e
        subst e
        have ej : j = ts.length := by omega
        rw [ej]
        exact ⟨⟨x, y, hx, hy, oth _ _ htS ht⟩, htS, hg⟩
      | succ k => rw [hk] at e; simp at e
  · refine List.nodup_append.mpr ⟨p.nod, by simp, fun a ha b hb => ?_⟩
    rw [List.mem_singleton.mp hb]
    exact fun e => htn (e ▸ ha)
  · have e : (List.map Value.ref (ts ++ [t])).toArray = (List.map Value.ref ts).toArray.push (.ref t) := by simp
    rw [e]
    exact ⟨_, Heap.get?_update_self (Obj.mapSeq (·.push (.ref t))) hS rfl⟩
  · have hb := Heap.lt_size e
    exact oth _ _ (Nat.ne_of_lt (Nat.lt_of_lt_of_le hb O.gS)) (p.keep b o e)
end
end L3N
namespace L3
open PySem L2 PySem.Spec PyProof.Rows
end L3
namespace L3
open PySem L2 PySem.Spec PyProof.Rows
end L3
namespace L3
open PySem L2 PySem.Spec PyProof.Rows
section
variable {X : Cx} {cl : ClsT} {H0 : Hp} {C0 : CH} {ca cb : CTE} {a b : Expr} {pos : Pos} {Ca fa : Addr} {fd : FuncData} {ps : List Str} {k c np : Nat} {sem : SemF} {g : List Src}
structure OwnL (K : PySem.W.Frag) (Ca f : Addr) : Prop where
  len : PySem.W.findIn K (.ref Ca) "__len__" = some (some (.ref f))
  fn : PySem.W.isFn K (.ref f) = true
end
end L3
set_option maxHeartbeats 1000000
namespace L3
open PySem PySem.Spec PyProof.Rows L2
end L3
set_option maxHeartbeats 1000000
namespace L3
open PySem PySem.Spec PyProof.Rows L2
end L3
namespace L3
open PySem L2 PySem.Spec PyProof.Rows
section
variable {X : Cx} {cl : ClsT} {H0 : Hp} {C0 : CH} {ca cb : CTE} {a b : Expr} {pos : Pos} {Ca fa : Addr} {fd : FuncData} {ps : List Str} {k c np : Nat} {sem : SemF} {g : List Src} {ex : Kxs}
structure OwnB (K : PySem.W.Frag) (Ca f : Addr) : Prop where
  mt : Meth K Ca "__or__" f
  sf : PySem.W.selfFirst K Ca = true
end
end L3
namespace L3
open PySem L2 PySem.Spec PyProof.Rows
/-- the context that knows the object at a -/
noncomputable abbrev pinX (X : Cx) (a : Addr) (oe : Obj) : Cx := { X with pn := (a, oe) :: X.pn }
section
variable {X : Cx} {pins : List (Addr × Obj)} {σ : L2.St} {H : Hp} {s : Shared}
theorem pinOk (k : X.Ok) (a : Addr) (oe : Obj) : (pinX X a oe).Ok :=
  ⟨k.mod, k.kind, k.glob, k.blt, k.above, k.inj, k.has, k.cab, k.hd, k.frames, k.stk, k.exf,
    k.bs, k.bsz, k.noex, k.exfs, k.funs, k.frf⟩
theorem pin_of_suite {a : Addr} {oe : Obj} (k : X.Ok) (I : Inv (X.suite a ((a, oe) :: (X.pn ++ pins))) [] σ H s) : Inv (pinX X a oe) pins σ H s :=
  ⟨pinOk k a oe, I.os, I.bare, I.base, I.loc, I.cell, I.free, I.freeC,
    fun p hp => I.pin p (by rw [List.append_nil]; exact hp), I.hok, I.len⟩
theorem unpin {a : Addr} {oe : Obj} (k : X.Ok) (I : Inv (pinX X a oe) pins σ H s) : Inv X pins σ H s :=
  ⟨k, I.os, I.bare, I.base, I.loc, I.cell, I.free, I.freeC,
    fun p hp => I.pin p (List.mem_cons_of_mem _ hp), I.hok, I.len⟩
theorem SP_unpin {a : Addr} {oe : Obj} {D : Ends} {f : Flow} (k : X.Ok) (h : SP (pinX X a oe) pins D f s) : SP X pins D f s := by
  cases f with
  | next => obtain ⟨σ1, H1, J, q⟩ := h; exact ⟨σ1, H1, unpin k J, q⟩
  | brk => obtain ⟨σ1, H1, J, q⟩ := h; exact ⟨σ1, H1, unpin k J, q⟩
  | cont => obtain ⟨σ1, H1, J, q⟩ := h; exact ⟨σ1, H1, unpin k J, q⟩
  | ret v => obtain ⟨w, σ1, H1, J, r, q⟩ := h; exact ⟨w, σ1, H1, unpin k J, r, q⟩
end
/-- what the clause wishes: ts the suite, tk what stands behind the try -/
noncomputable def wKeep (K : PySem.W.Frag) (c : Value) (i : Nat) (ts : Addr → Value → TS) (tk : Addr → Value → Option Addr → TS) (Wout : WX) (D : Ends) : WX := fun cls d σ H =>
  ∃ b, PySem.W.exmOne K cls c = some b ∧
    (b = true → ∀ a, H a = none → ts a cls { nx := fun σ1 H1 => tk a cls d D (σ1.set i none) H1, rt := fun _ _ => False } (σ.set i (some (.ref a))) H) ∧
    (b = false → Wout cls d σ H)
section
variable {X : Cx} {x n : Str} {c : Value} {i : Nat} {body suite rest : List Stmt} {b0 : Stmt} {np pos pos' : Pos} {tb : WX → TS} {ts : Addr → Value → TS} {tk : Addr → Value → Option Addr → TS} {tr : TS} {Wout : WX}
theorem pss_try_keep (hs : X.stack = X.env :: X.outer) (hf : X.env.frame = some X.env.locals) (hN : X.N.Nodup) (hi : X.N[i]? = some n) (hln : X.env.kindOf n = some .local) (hc : Names X x c) (tkO : Takes X Wout)
    (hb : ∀ (W : WX) (pn : List (Addr × Obj)) (xe : Value → Shared → Prop), Takes (X.tr pn xe) W → PassesOwn (model X.prog X.w) X.A X.env xe → PSs (X.tr pn xe) body (tb W))
    (hsu : ∀ (a : Addr) (oe : Obj) (cls : Value) (pn : List (Addr × Obj)), PSs (X.suite a ((a, oe) :: pn)) (b0 :: suite) (ts a cls))
    (hr : PSs X rest tr) (hk : ∀ (a : Addr) (oe : Obj) (cls : Value) (d : Option Addr), Zc cls d oe → (∃ vs, oe.data = .fields vs) → PSs (pinX X a oe) rest (tk a cls d)) :
    PSs X (.Try body [.ExceptHandler (some (.Name x np)) (some n) (b0 :: suite) pos'] [] [] pos :: rest) (fun D σ H => tb (wKeep X.K c i ts tk Wout D) { D with nx := tr D } σ H) := by
  constructor
  intro pins s0 σ0 H0 D I h
  have k := I.ok
  have hA : X.A.frames = some (X.env :: X.outer) := k.frames.trans (by rw [hs])
  have hloc : Loc X.env.scope n := Or.inl hln
  refine wpAny_execs_cons (wpAny_Try_except ?_)
  let R : Flow → Shared → Prop := fun f s1 => match f with
    | .next => wpAny (model X.prog X.w) X.A (execs rest X.env) (SP X pins D) X.xe s1
    | g => SP X pins D g s1
  have through : ∀ (f : Flow) (s1 : Shared), SP (X.tr (X.pn ++ pins) fun e s1 => wpAny (model X.prog X.w) X.A (noteFrame e X.env) (fun _ s2 => wpAny (model X.prog X.w) X.A (setFlight e none)
        (fun _ s3 => wpAny (model X.prog X.w) X.A (handleBy e X.env [.ExceptHandler (some (.Name x np)) (some n) (b0 :: suite) pos']) R X.xe s3) X.xe s2) X.xe s1) [] { D with nx := tr D } f s1 →
      (match f with | .next => wpAny (model X.prog X.w) X.A (execs [] X.env) R X.xe s1 | g => R g s1) := by
    intro f s1 q
    cases f with
    | next =>
      obtain ⟨σ1, H1, J, q1⟩ := q
      exact wpAny_execs_nil (hr.run pins s1 σ1 H1 D (J.ofTry k) q1)
    | brk => obtain ⟨σ1, H1, J, q1⟩ := q; exact ⟨σ1, H1, J.ofTry k, q1⟩
    | cont => obtain ⟨σ1, H1, J, q1⟩ := q; exact ⟨σ1, H1, J.ofTry k, q1⟩
    | ret v => obtain ⟨w, σ1, H1, J, r, q1⟩ := q; exact ⟨w, σ1, H1, J.ofTry k, r, q1⟩
  refine wpAny_mono ((hb (wKeep X.K c i ts tk Wout D) (X.pn ++ pins) _ (fun u s1 air => ?_) PassesOwn.looking).run [] s0 σ0 H0 _ (I.toTry _) h) through (fun _ _ q => q)
  -- the exception lands
  obtain ⟨a, G, t0, pins1, σ1, H1, cls, d, eu, J0, below, upto, sky, fresh, os0, bare0, b, hcls, yes, no⟩ := air
  subst eu
  have J : Inv X pins σ1 H1 t0 := J0.ofTry k
  have sky1 : Sky G (X.env :: X.outer) a (Zc cls d) X.env.locals s1.heap := hs ▸ sky
  refine Sky.land Zc.steady hA hf sky1 fun g3 fly3 up3 => ?_
  have at_ : ∀ g, HandSPX.FlyingZ G (X.env :: X.outer) a (Zc cls d) g → s1.heap.UpToSlots g → L2.Inv X pins σ1 H1 { s1 with heap := g } := fun g fl up =>
    J.landed below fl.1 (upto.trans up) os0 bare0
  have I3 := at_ g3 fly3 up3
  obtain ⟨o3, v3, at3, z3, f3⟩ := fly3.there
  have away : a ∉ frs (X.env :: X.outer) := fun hm => by
    obtain ⟨_, o1, at1, nf⟩ := fly3.2.2.1.mem hm
    cases at3.symm.trans at1
    exact nf _ f3
  have offL : a ≠ X.env.locals := fun z => away (List.mem_filterMap.mpr ⟨X.env, List.mem_cons_self, hf.trans (congrArg some z.symm)⟩)
  have offF : a ∉ X.fs := fun hm => by
    obtain ⟨e1, m1, q1⟩ := List.mem_filterMap.mp hm
    exact away (List.mem_filterMap.mpr ⟨e1, List.mem_cons_of_mem _ m1, q1⟩)
  have T3 := I3.suite at3 f3 fresh offL offF
  refine wpAny_handleBy_cons (codeAny_handlers_test ?_) (by intro q; cases q)
  have isCls : PySem.W.Looks (model X.prog X.w) g3 (typeOf (.ref a)) cls := fun A' Q' E' t kp q => wpAny_typeOf_ref (kp _ _ at3) (z3.1 ▸ q)
  have asks := PySem.W.exm_one (M := model X.prog X.w) I3.kIn isCls hcls
  have named : ∀ {Q1 : Value → Shared → Prop} {E1 : Value → Shared → Prop}, Q1 c { s1 with heap := g3 } →
      wpAny (model X.prog X.w) (X.A.mark (some (.ref a))) (eval (.Name x np) X.env) Q1 E1 { s1 with heap := g3 } := fun {Q1 E1} q => by
    obtain ⟨gl, nd, own | ⟨no1, boot, nn⟩⟩ := hc
    · exact ld_glob (X := X.suite a ((a, o3) :: (X.pn ++ pins))) T3 gl own q nd
    · exact ld_blt (X := X.suite a ((a, o3) :: (X.pn ++ pins))) T3 gl no1 boot q nn nd
  refine named (asks.here ?_)
  cases b with
  | true =>
    refine codeAny_handlers_suite_as ?_
    refine HandSPX.lands_againZ fly3 fun g4 fly4 up4 => ?_
    have I4 := at_ g4 fly4 (up3.trans up4)
    obtain ⟨o4, v4, at4, z4, f4⟩ := fly4.there
    have T4 := I4.suite at4 f4 fresh offL offF
    refine store_ok (X := X.suite a ((a, o4) :: (X.pn ++ pins))) (v := .ref a) T4 hN hi hloc rfl (fun s5 T5 => ?_) (.inr hln)
    refine wpAny_mono ((hsu a o4 cls (X.pn ++ pins)).run [] s5 _ H1 _ T5 (yes rfl a fresh)) (fun f s6 q => ?_) (fun _ _ z => z.elim)
    cases f with
    | next =>
      obtain ⟨σ6, H6, T6, q6⟩ := q
      refine gone_ok (X := pinX X a o4) (pin_of_suite k T6) hN hi hln fun s7 I7 => ?_
      refine wpAny_mono ((hk a o4 cls d z4 ⟨_, f4⟩).run pins s7 _ H6 D I7 q6) (fun g s8 q8 => SP_unpin k q8) fun _ _ z => z
    | brk => obtain ⟨σ6, H6, T6, q6⟩ := q; exact q6.elim
    | cont => obtain ⟨σ6, H6, T6, q6⟩ := q; exact q6.elim
    | ret v => obtain ⟨w, σ6, H6, T6, r6, q6⟩ := q; exact q6.elim
  | false =>
    -- no clause takes it: it goes on
    refine wpAny_handleBy_nil ?_
    obtain ⟨_, _, _, o5, v5, P5, oP, vP, at5, _, f5, first5, _⟩ := id fly3
    have on : wpAny (model X.prog X.w) X.A (setFlight (.ref a) X.env.frame) (fun _ s4 => wpAny (model X.prog X.w) X.A (throw (.ref a) : Sem Flow) R X.xe s4) X.xe { s1 with heap := g3 } := by
      refine hf ▸ HandSPX.setFlight_upZ fly3 fun g4 held up4 => wpAny_throw (tkO _ _ ?_)
      exact ⟨a, G, t0, pins, σ1, H1, cls, d, rfl, J, below, (upto.trans up3).trans up4,
        Or.inr (Or.inr (by rw [hs]; exact held)), fresh, os0, bare0, no rfl⟩
    unfold PySem.passOn
    refine wpAny_bind (wpAny_field at5 f5 first5 ?_)
    have some5 : (Value.ref P5 == Value.none) = false := by simp
    rw [some5, if_neg Bool.false_ne_true]
    first
      | exact wpAny_bind (wpAny_pure (wpAny_bind on))
      | exact wpAny_bind on
end
section
variable {X : Cx} {cl : ClsT} {H0 : Hp} {C0 : CH} {ex : Kxs}
theorem cpss_try_keep {x n : Str} {i : Nat} {c : Value} {body suite rest : List Stmt} {b0 : Stmt} {np pos pos' : Pos} {sub : Nat → Bool} {b : Kxs → CTS} {s r : CTS} {kk : Addr → Nat → CTS}
    (hs : X.stack = X.env :: X.outer) (hf : X.env.frame = some X.env.locals) (hN : X.N.Nodup) (hi : X.N[i]? = some n) (hln : X.env.kindOf n = some .local) (hc : Names X x c) (hsub : SubOk X.K cl c sub) (tk : Takes X (WC X.K cl H0 C0 ex))
    (hb : ∀ (pn : List (Addr × Obj)) (xe : Value → Shared → Prop) (ex' : Kxs) (H1 : Hp) (C1 : CH), Keep H0 C0 H1 C1 → Takes (X.tr pn xe) (WC X.K cl H1 C1 ex') → PassesOwn (model X.prog X.w) X.A X.env xe → CPSs (X.tr pn xe) cl H1 C1 body (b ex'))
    (hsu : ∀ (a : Addr) (oe : Obj) (pn : List (Addr × Obj)), CPSs (X.suite a ((a, oe) :: pn)) cl H0 C0 (b0 :: suite) s)
    (hr : CPSs X cl H0 C0 rest r) (hk : ∀ (a : Addr) (oe : Obj) (cc : Nat) (Ca : Addr), cl cc = some Ca → Zc (.ref Ca) none oe → (∃ vs, oe.data = .fields vs) → CPSs (pinX X a oe) cl H0 C0 rest (kk a cc)) :
    CPSs X cl H0 C0 (.Try body [.ExceptHandler (some (.Name x np)) (some n) (b0 :: suite) pos'] [] [] pos :: rest)
      (fun D σ C => b (fun y σ1 C1 => if sub y.cls = true then y.fs = [] ∧ ∀ a, C1 a = none → s { nx := fun σ2 C2 => kk a y.cls D (σ2.set i none) C2, rt := fun _ _ => False } (σ1.set i (some (.ref a))) C1 else ex y σ1 C1) { D with nx := fun σ2 C2 => r D σ2 C2 } σ C) :=
  (pss_try_keep (tb := fun W D σ H => ∃ ex' H1 C1, Keep H0 C0 H1 C1 ∧ (∀ cls d σ H, WC X.K cl H1 C1 ex' cls d σ H → W cls d σ H) ∧ tS X.K cl H1 C1 (b ex') D σ H) (ts := fun _ _ => tS X.K cl H0 C0 s)
      (tk := fun a cls d D σ H => ∃ cc Ca, cl cc = some Ca ∧ cls = .ref Ca ∧ d = none ∧ tS X.K cl H0 C0 (kk a cc) D σ H) (tr := tS X.K cl H0 C0 r) hs hf hN hi hln hc tk
    (fun W pn xe tk' po => ⟨fun pins st σ H D I ⟨ex', H1, C1, hk, hw, h⟩ => (hb pn xe ex' H1 C1 hk (tk'.imp hw) po).run pins st σ H D I h⟩)
    (fun a oe _ pn => hsu a oe pn) hr
    (fun a oe cls d z f => ⟨fun pins st σ H D I ⟨cc, Ca, h1, h2, h3, h⟩ => by subst h2; subst h3; exact (hk a oe cc Ca h1 z f).run pins st σ H D I h⟩)).imp fun D σ H ⟨σc, C, Dc, S, h, hq⟩ => by
    refine ⟨_, H, C, S.f, fun cls d σ1 H1 ⟨y, σ2, C1, hy, ⟨Ca, e1, e2, e3⟩, S1⟩ => ?_, σc, C, { Dc with nx := fun σ2 C2 => r Dc σ2 C2 }, ⟨S.s, S.r, Keep.refl⟩, h, ⟨fun σ2 C2 σ3 H3 q rp R kp => ⟨σ2, C2, Dc, ⟨rp, R, S.f.trans kp⟩, q, hq.from_ kp⟩, hq.rt, hq.bk, hq.ct⟩⟩
    · subst e2
      have S2 : S3 X.K cl H0 C0 σ1 H1 σ2 C1 := ⟨S1.s, S1.r, S.f.trans S1.f⟩
      refine ⟨_, hsub _ _ e1, fun yes a fresh => ?_, fun no => ?_⟩
      · have hy' : y.fs = [] ∧ ∀ a, C1 a = none → s { nx := fun σ2 C2 => kk a y.cls Dc (σ2.set i none) C2, rt := fun _ _ => False } (σ2.set i (some (.ref a))) C1 := by
          have := hy
          simp only [yes, if_true] at this
          exact this
        obtain ⟨f0, hy'⟩ := hy'
        have dn : d = none := by
          rcases e3 with ⟨e3, _⟩ | ⟨_, _, ne, _⟩
          · exact e3
          · exact (ne f0).elim
        have hq1 := hq.from_ S1.f
        refine ⟨_, C1, _, ⟨S2.s.set (.ref a) i, S2.r, S2.f⟩, hy' a (free_of S2.r fresh), ⟨fun σ3 C3 σ4 H4 q rp R kp => ?_, fun _ _ _ _ z => z.elim, fun _ _ _ _ z => z.elim, fun _ _ _ _ z => z.elim⟩⟩
        exact ⟨y.cls, Ca, e1, rfl, dn, _, C3, Dc, ⟨rp.wipe1 i, R, S2.f.trans kp⟩, q, hq1.from_ kp⟩
      · have hy' : ex y σ2 C1 := by
          have := hy
          simp only [no, Bool.false_eq_true, if_false] at this
          exact this
        exact ⟨y, σ2, C1, hy', ⟨Ca, e1, rfl, e3⟩, S2⟩
noncomputable def rIsP (K : PySem.W.Frag) (Da a : Addr) : List V → Hp → VK → Prop := fun xs H Q =>
  ∃ (c : V) (cv : Value) (b : Bool), xs = [.ref a, c] ∧ (∀ u, RelV c u → u = cv) ∧ PySem.W.kitOne K (.ref Da) cv = some b ∧ Q (.bl b) H
theorem call_isP {a Da : Addr} {oe : Obj} (hp : (a, oe) ∈ X.pn) (C : ExcC X.K Da) (hz : Zc (.ref Da) none oe) (hf : ∃ vs, oe.data = .fields vs) : CallR X (.builtin "isinstance") (rIsP X.K Da a) := by
  intro pins s σ H xs us Q I r ⟨c, cv, b, ex, hcv, e, q⟩
  subst ex
  cases r with
  | cons rx rr =>
  cases rr with
  | cons rt rr =>
  cases rr
  cases rx
  have ec := hcv _ rt
  subst ec
  have at_ := (I.pin (a, oe) (List.mem_append_left _ hp)).1
  obtain ⟨vs, hv⟩ := hf
  have J : PySem.W.InstAt s.heap a oe Da none := by
    obtain ⟨k1, k2, k3, k4⟩ := oe
    obtain ⟨h1, h2⟩ := hz
    dsimp only at h1 h2 hv
    subst h1 h2 hv
    exact ⟨at_, rfl, rfl, trivial⟩
  exact PySem.W.kia_one (PySem.W.handS_kitx_exc C.hg C.hk C.hs C.hd C.ha C.hn C.ht C.hm) I.kIn J e
    (fun z => nomatch z) fun tk => ⟨.bl b, H, I.kept (t' := tk) fun _ _ z => z, rfl, q⟩
/-- isinstance(name j, u): the name holds what was caught, of the class cc -/
noncomputable def cIsx (ans : List (Nat × Bool)) (j : Nat) (a : Addr) (cc : Nat) : CTE := fun σ C Q => σ[j]? = some (some (.ref a)) ∧ ∃ b, ans.lookup cc = some b ∧ Q (.bl b) C
theorem cpe_isx {ans : List (Nat × Bool)} {u : String ⊕ Nat} {e c : Expr} {p pos : Pos} {vc : V} {j : Nat} {a Da : Addr} {cc : Nat} {oe : Obj} (hkit : ∀ b, ans.lookup cc = some b → ∃ vu, tyVal cl u = some vu ∧ PySem.W.kitOne X.K (.ref Da) vu = some b)
    (hp : (a, oe) ∈ X.pn) (C : ExcC X.K Da) (hz : Zc (.ref Da) none oe) (hfl : ∃ vs, oe.data = .fields vs) (he : CPE X cl H0 C0 e (cVar j)) (hc : PE X c (tC vc)) (hcv : ∀ w, tyVal cl u = some w → ClsV vc w) (hg : Gl X "isinstance") (hm : X.mg "isinstance" = none)
    (h1 : notStar e = true) (h2 : notStar c = true) : CPE X cl H0 C0 (.Call (.Name "isinstance" p) [e, c] [] pos) (cIsx ans j a cc) :=
  (pe_callB (call_isP hp C hz hfl) hg hm (by decide +kernel) (pa_cons he (pa_cons hc pa_nil (star_of h2)) (star_of h1)) (by decide) (by decide) (star_of h1) (star_any (by simp [h2]))).imp fun σ H Q ⟨σc, C1, Qc, S, ⟨ha, b, hb, q⟩, hq⟩ =>
    ⟨σc, C1, fun d C2 => d = .ref a ∧ C2 = C1, S, ⟨_, ha, rfl, rfl⟩, fun d C2 v H1 ⟨hd, hC⟩ rv R1 k1 => by
      subst hd; subst hC
      cases rv
      obtain ⟨vu, e1, e2⟩ := hkit b hb
      refine ⟨vc, vu, b, rfl, ?_, e2, (hq.from_ k1).now q (.bl b) R1⟩
      have cv := hcv vu e1
      intro w rw_
      cases cv with
      | ty n => cases rw_; rfl
      | own Ca => cases rw_; rfl⟩
end
end L3
namespace L3
open PySem L2 PySem.Spec PyProof.Rows
end L3
namespace L3S
open PySem PySem.Spec PyProof.Rows SS
section
variable {pr : Program} {wd : World} {B : Around} {E : Value → Shared → Prop} {s : Shared}
noncomputable abbrev fr (led : Bool) : Obj := { cls := .type "set", dict := none, data := .set #[] 0 (.fresh 0 0 led) }
end
end L3S
namespace L3
open PySem L2 PySem.Spec PyProof.Rows L3S
section
variable {X : Cx} {cl : ClsT} {H0 : Hp} {C0 : CH} {ca co : CTE} {a e o : Expr} {pos : Pos}
/-- a written dict that tells names -/
structure WDct (K : PySem.W.Frag) (w : World) (p : Addr) (tab : List (Str × Int)) : Prop where
  big : p ≠ sysModules
  at_ : ∀ z i, tab.lookup z = some i → KDct K w p z (.int i)
/-- str(i) -/
noncomputable def oStrI : OL := fun xs C Q => ∃ i : Int, xs = [.int i] ∧ i.natAbs.log2 < 1920 ∧ Q (.str (toString i)) C
theorem lk_strI {K : PySem.W.Frag} : LkL K cl (fun xs H Q => ∃ i : Int, xs = [.int i] ∧ i.natAbs.log2 < 1920 ∧ Q (.str (toString i)) H) oStrI := fun H C ds vs Q Qc rs R ⟨i, h1, h2, q⟩ hq => by
  subst h1
  cases rs with
  | cons r rr => cases r; cases rr; exact ⟨i, rfl, h2, hq.now q (.str _) R⟩
end
end L3
set_option maxHeartbeats 1000000
namespace L3S
open PySem PySem.Spec PyProof.Rows
end L3S
namespace L3
open PySem PySem.Spec PyProof.Rows L2
end L3
namespace L3
open PySem PySem.Spec PyProof.Rows L2
theorem fold_nil : ∀ n : Nat, (List.replicate n (#[] : Array Nat)).foldl (· ++ ·) #[] = #[]
  | 0 => rfl
  | n + 1 => by rw [List.replicate_succ, List.foldl_cons]; exact fold_nil n
theorem fold_size (a : Array Nat) : ∀ (n : Nat) (acc : Array Nat), ((List.replicate n a).foldl (fun x y => x ++ y) acc).size = acc.size + n * a.size
  | 0, acc => by simp
  | n + 1, acc => by
    rw [List.replicate_succ, List.foldl_cons, fold_size a n, Array.size_append, Nat.succ_mul]; omega
section
variable {X : Cx} {cl : ClsT}
noncomputable def rRepS : R2 := fun x y H Q => ∃ (z : Str) (k : Int), x = .str z ∧ y = .int k ∧ 0 ≤ k ∧ k ≤ 10000 ∧ z.length ≤ 1000 ∧ Q (.str (repS z k.toNat)) H
theorem op_repS : OpR X (binaryOp .Mult) rRepS := by
  intro pins s σ H x y u v Q I rx ry ⟨z, k, ex, ey, k0, k1, hz, q⟩
  subst ex; subst ey
  obtain ⟨t, rfl⟩ := rx
  obtain ⟨t2, rfl⟩ := ry
  have hsl : 10000000 ≤ sizeLine := by decide
  refine P.mul_str ?_ (fun h1 h2 => ?_) (fun h1 h2 => ?_) ?_
  · have a : ¬ k < -(2 ^ 63 : Int) := by omega
    have b : ¬ k ≥ 2 ^ 63 := by omega
    rw [decide_eq_false a, decide_eq_false b]; rfl
  · have kp : 0 < k := by omega
    have hm : (z.length : Int) * k ≤ 1000 * 10000 := Int.mul_le_mul (by omega) k1 (by omega) (by omega)
    have : (z.length : Int) ≤ (2 ^ 63 - 1) / k := (Int.le_ediv_iff_mul_le kp).mpr (by omega)
    omega
  · have hm : z.length * k.toNat ≤ 1000 * 10000 := Nat.mul_le_mul hz (by omega)
    show decide (z.length * k.toNat > sizeLine) = false
    exact decide_eq_false (by omega)
  · have fin : ∀ (y : Str) (s' : Shared), y = repS z k.toNat → (∃ n, s' = { s with toks := n }) → ∀ tk, EP X pins σ Q (.str y tk) s' := by
      rintro y s' rfl ⟨n, rfl⟩ tk
      exact ⟨.str _, H, I.tok _, ⟨_, rfl⟩, q⟩
    by_cases h1 : k < 1
    · rw [if_pos h1]
      obtain rfl : k = 0 := by omega
      exact ⟨by decide, fin _ _ rfl ⟨_, rfl⟩ _⟩
    · rw [if_neg h1]
      by_cases h2 : (k == 1 || z.length == 0) = true
      · rw [if_pos h2]
        refine fin z s ?_ ⟨s.toks, rfl⟩ t
        rw [Bool.or_eq_true] at h2
        rcases h2 with h2 | h2
        · have e : k = 1 := by simpa using h2
          subst e
          show z = ⟨#[] ++ z.cps⟩
          rw [Array.empty_append]
        · have e : z.cps = #[] := by
            have : z.cps.size = 0 := by simpa [Str.length] using h2
            exact Array.eq_empty_of_size_eq_zero this
          show z = ⟨_⟩
          rw [e, fold_nil]
          cases z
          simp only at e
          rw [e]
      · rw [if_neg h2]
        refine ⟨?_, fin _ _ rfl ⟨_, rfl⟩ _⟩
        show (List.foldl (fun x1 x2 => x1 ++ x2) (#[] : Array Nat) (List.replicate k.toNat z.cps)).size ≤ sizeLine
        rw [fold_size]
        have hm : k.toNat * z.cps.size ≤ 10000 * 1000 := Nat.mul_le_mul (by omega) hz
        simp only [Array.size_empty]
        omega
end
end L3
namespace L3N
open PySem PySem.Spec PyProof.Rows PySem.SeqAt
open AutoSeq1 (wpAny_loadPart')
open MeetsSeq MeetsSeq2 MeetsSeq3
section
/-- the kinds of the other thing -/
inductive Kind1 (s : Shared) : Value → String → Prop where
  | non : Kind1 s .none "NoneType"
  | int (i : Int) (t : Tok) : Kind1 s (.int i t) "int"
  | str (z : Str) (t : Tok) : Kind1 s (.str z t) "str"
  | tup {a : Addr} {o : Obj} (h : s.heap.get? a = some o) (hc : o.cls = .type "tuple") : Kind1 s (.ref a) "tuple"
theorem Kind1.type {s : Shared} {v : Value} {T : String} (k : Kind1 s v T) : s.TypeIs v T := by
  cases k with
  | non => rfl
  | int i t => rfl
  | str z t => rfl
  | tup h hc => exact ⟨_, h, hc⟩
theorem Kind1.sub {s : Shared} {v : Value} {T : String} {K : PySem.W.Frag} {C : Addr} (k : Kind1 s v T) : PySem.W.subIn K (.type T) (.ref C) = some false := by
  have h : ∀ T ∈ ["NoneType", "int", "str", "tuple"], (fastBuiltinMro T).map (fun x => x.all fun v => match v with | .type _ => true | _ => false) = some true := by decide +kernel
  have g : ∀ T ∈ ["NoneType", "int", "str", "tuple"], PySem.W.subIn K (.type T) (.ref C) = some false := fun T hT => by
    have e := h T hT
    show (fastBuiltinMro T).map (·.contains (.ref C)) = some false
    cases hm : fastBuiltinMro T with
    | none => rw [hm] at e; cases e
    | some x =>
      rw [hm] at e
      simp only [Option.map_some, Option.some.injEq] at e ⊢
      rw [Bool.eq_false_iff]
      intro hc
      rw [List.contains_iff_mem] at hc
      have := List.all_eq_true.mp e _ hc
      cases this
  cases k <;> exact g _ (by decide)
end
end L3N
namespace L3N
open PySem PySem.Spec PyProof.Rows PySem.SeqAt
theorem Kind1.looks {prog : Program} {w : World} {s : Shared} {v : Value} {T : String} (k : Kind1 s v T) : PySem.W.Looks (model prog w) s.heap (typeOf v) (.type T) := by
  cases k with
  | non => exact PySem.W.Looks.of_pure rfl
  | int i t => exact PySem.W.Looks.of_pure rfl
  | str z t => exact PySem.W.Looks.of_pure rfl
  | tup h hc => exact fun A Q E s' hk hq => wpAny_typeOf ⟨_, hk _ _ h, hc⟩ hq
end L3N
namespace L3
open PySem L2 PySem.Spec PyProof.Rows
/-- a class that is none of the kinds of other things -/
structure OwnX (K : PySem.W.Frag) (Ca : Addr) : Prop where
  non : PySem.W.mroIn K Ca (.type "NoneType") = some false
  int : PySem.W.mroIn K Ca (.type "int") = some false
  str : PySem.W.mroIn K Ca (.type "str") = some false
  tup : PySem.W.mroIn K Ca (.type "tuple") = some false
theorem OwnX.of {K : PySem.W.Frag} {Ca : Addr} {s : Shared} {v : Value} {T : String} (O : OwnX K Ca) (k : L3N.Kind1 s v T) : PySem.W.mroIn K Ca (.type T) = some false := by
  cases k
  · exact O.non
  · exact O.int
  · exact O.str
  · exact O.tup
/-- None, a number, a string, a tuple -/
noncomputable def plV (K : PySem.W.Frag) (H : Hp) (v : V) : Prop := v = .non ∨ (∃ i, v = .int i) ∨ (∃ z, v = .str z) ∨ ∃ a vs, v = .ref a ∧ SqT K H a vs
section
variable {X : Cx} {cl : ClsT} {H0 : Hp} {C0 : CH} {Ca fa : Addr} {fd : FuncData} {ps : List Str} {sp : Sp} {k : Nat} {g : List Src} {gV : List V → List V → List V}
theorem plV.kind {pins : List (Addr × Obj)} {σ : L2.St} {H : Hp} {s : Shared} {v : V} {u : Value} (I : Inv X pins σ H s) (h : plV X.K H v) (r : RelV v u) : ∃ T, L3N.Kind1 s u T := by
  rcases h with rfl | ⟨i, rfl⟩ | ⟨z, rfl⟩ | ⟨a, vs, rfl, h⟩
  · rw [show u = .none from r]; exact ⟨_, .non⟩
  · obtain ⟨t, rfl⟩ := r; exact ⟨_, .int i t⟩
  · obtain ⟨t, rfl⟩ := r; exact ⟨_, .str z t⟩
  · rw [show u = .ref a from r]
    obtain ⟨its, r1, ⟨o, ho, hc, hd⟩, hz⟩ := I.tuple h
    exact ⟨_, .tup ho hc⟩
end
end L3
namespace L3
open PySem L2 PySem.Spec PyProof.Rows
/-- the own == of a class, against its own and against other things -/
noncomputable abbrev OwnEX (K : PySem.W.Frag) (Ca f : Addr) : Prop := OwnE K Ca f ∧ OwnX K Ca
end L3
namespace L3
open PySem L2 PySem.Spec PyProof.Rows
end L3
set_option maxHeartbeats 1000000
namespace L3
open PySem PySem.Spec PyProof.Rows L2
section
variable {X : Cx} {cl : ClsT} {H0 : Hp} {C0 : CH} {pos : Pos} {e : Expr} {ca : CTE}
noncomputable def cFmt (a : CTE) : CTE := fun σ C Q => a σ C fun d C1 => match d with
  | .str y => y.length ≤ sizeLine ∧ Q (.str y) C1
  | .int i => i.natAbs.log2 < 1920 ∧ Q (.str (toString i)) C1
  | _ => False
theorem cpe_fmt (ha : CPE X cl H0 C0 e ca) : CPE X cl H0 C0 (.FormattedValue e (-1) none pos) (cFmt ca) :=
  (pe_fmt ha).imp fun σ H Q ⟨σc, C, Qc, S, h, hq⟩ => ⟨σc, C, _, S, h, fun d C1 v H1 h1 rv R1 k1 => by
    have hq1 := hq.from_ k1
    cases d with
    | str y => cases rv; exact .inl ⟨y, rfl, h1.1, hq1.now h1.2 (.str _) R1⟩
    | int i => cases rv; exact .inr ⟨i, rfl, h1.1, hq1.now h1.2 (.str _) R1⟩
    | _ => exact h1.elim⟩
/-- the texts one behind the other -/
noncomputable def cJs : List CTE → Str → Env3 → CH → (Str → CH → Prop) → Prop
  | [], acc, _, C, Q => Q acc C
  | t :: ts, acc, σ, C, Q => t σ C fun d C1 => ∃ y, d = .str y ∧ (acc ++ y).length ≤ sizeLine ∧ cJs ts (acc ++ y) σ C1 Q
noncomputable def cFst (ts : List CTE) : CTE := fun σ C Q => cJs ts Str.empty σ C fun z C1 => Q (.str z) C1
theorem tJs_of {K : PySem.W.Frag} : ∀ (ts : List CTE) (acc : Str) (σ : L2.St) (H : Hp) (σc : Env3) (C : CH) (Qc : Str → CH → Prop) (Q : Str → Hp → Prop), S3 K cl H0 C0 σ H σc C → cJs ts acc σc C Qc →
    (∀ z C' H', Qc z C' → Rel K cl H' C' → Keep H C H' C' → Q z H') → tJs (ts.map (tE K cl H0 C0)) acc σ H Q
  | [], acc, σ, H, σc, C, Qc, Q, S, h, hq => hq acc C H h S.r Keep.refl
  | t :: ts, acc, σ, H, σc, C, Qc, Q, S, h, hq => ⟨σc, C, _, S, h, fun d C1 v H1 ⟨y, e1, h1, h2⟩ rv R1 k1 => by
    subst e1
    cases rv
    exact ⟨y, rfl, h1, tJs_of ts _ σ H1 σc C1 Qc Q (S.step k1 R1) h2 fun z C' H' q R k => hq z C' H' q R (k1.trans k)⟩⟩
theorem cpe_fst {v1 v2 : Expr} {rest : List Expr} {ts : List CTE} (h : PJ X (v1 :: v2 :: rest) (ts.map (tE X.K cl H0 C0))) : CPE X cl H0 C0 (.JoinedStr (v1 :: v2 :: rest) pos) (cFst ts) :=
  (pe_joined h).imp fun σ H Q ⟨σc, C, Qc, S, h, hq⟩ => tJs_of ts Str.empty σ H σc C _ _ S h fun z C' H' q R k => hq _ _ _ _ q (.str _) R k
/-- int(a text) -/
noncomputable def oIntS : OL := fun xs C Q => ∃ a n, xs = [.str a] ∧ PySem.intText? a = some n ∧ a.length ≤ 640 ∧ Q (.int n) C
theorem lk_intS {K : PySem.W.Frag} : LkL K cl (fun xs H Q => ∃ a n, xs = [.str a] ∧ PySem.intText? a = some n ∧ a.length ≤ 640 ∧ Q (.int n) H) oIntS := fun H C ds vs Q Qc rs R ⟨a, n, h1, h2, h3, q⟩ hq => by
  subst h1
  obtain ⟨v, rfl, r⟩ := rs.one
  cases r
  exact ⟨a, n, rfl, h2, h3, hq.now q (.int _) R⟩
end
end L3
namespace L3
open PySem L2
/-- what kit says of several classes: of one of them -/
noncomputable def anyKit (kit : String ⊕ Nat → String ⊕ Nat → Option Bool) (t : String ⊕ Nat) : List (String ⊕ Nat) → Option Bool
  | [] => some false
  | u :: us => match kit t u with
    | some true => some true
    | some false => anyKit kit t us
    | none => none
/-- the classes of a tuple, each by its name -/
inductive ClsL (X : Cx) (cl : ClsT) : List Expr → List (String ⊕ Nat) → List V → List Value → Prop where
  | nil : ClsL X cl [] [] [] []
  | cons {z : Expr} {zs : List Expr} {u : String ⊕ Nat} {us : List (String ⊕ Nat)} {v : V} {vs : List V} {w : Value} {ws : List Value} : PE X z (tC v) → notStar z = true → tyVal cl u = some w → ClsV v w → ClsL X cl zs us vs ws → ClsL X cl (z :: zs) (u :: us) (v :: vs) (w :: ws)
section
variable {X : Cx} {cl : ClsT} {H0 : Hp} {C0 : CH} {pos : Pos}
theorem ClsL.pa {zs : List Expr} {us : List (String ⊕ Nat)} {vs : List V} {ws : List Value} (h : ClsL X cl zs us vs ws) : PA X zs fun σ H Q => Q vs H := by
  induction h with
  | nil => exact pa_nil.imp fun _ _ _ q => q
  | cons h1 h2 _ _ _ ih => exact (pa_cons h1 ih (star_of h2)).imp fun σ H Q q => q
theorem ClsL.maps {zs : List Expr} {us : List (String ⊕ Nat)} {vs : List V} {ws : List Value} (h : ClsL X cl zs us vs ws) : us.map (tyVal cl) = ws.map some := by
  induction h with
  | nil => rfl
  | cons _ _ h3 _ _ ih => rw [List.map_cons, List.map_cons, h3, ih]
theorem ClsL.paired {zs : List Expr} {us : List (String ⊕ Nat)} {vs : List V} {ws : List Value} (h : ClsL X cl zs us vs ws) : Paired ClsV vs ws := by
  induction h with
  | nil => exact .nil
  | cons _ _ _ h4 _ ih => exact .cons h4 ih
theorem ClsL.len {zs : List Expr} {us : List (String ⊕ Nat)} {vs : List V} {ws : List Value} (h : ClsL X cl zs us vs ws) : vs.length = zs.length := by
  induction h with
  | nil => rfl
  | cons _ _ _ _ _ ih => rw [List.length_cons, List.length_cons, ih]
end
end L3
namespace L3
open PySem L2 PySem.Spec PyProof.Rows LamX
/-- what is meant by calling a value -/
noncomputable abbrev SemA := D → CH → Kv → Kx → Prop
theorem Rel.extN {K : PySem.W.Frag} {cl : ClsT} {H H1 : Hp} {C : CH} (R : Rel K cl H C) (e : ExtN H H1) (t : Tabs (tabsOf cl) H1) : Rel K cl H1 C ∧ Keep H C H1 C := by
  have k : Keep H C H1 C := fun b o h n nt => ⟨e b o h nt, n⟩
  refine ⟨⟨fun a o ho => ?_, t⟩, k⟩
  have q := R a o ho
  cases o with
  | lst ds => obtain ⟨vs, h1, h2⟩ := q; exact ⟨vs, e _ _ h1 NT.lst, h2.keep R k⟩
  | dic ds => obtain ⟨vs, h1, h2⟩ := q; exact ⟨vs, e _ _ h1 NT.dK, h2.keep R k⟩
  | dtk ds => obtain ⟨vs, h1, h2⟩ := q; exact ⟨vs, e _ _ h1 NT.ext, h2.keep R k⟩
  | ins c ds => obtain ⟨Ca, dx, vs, h0, h1, h2⟩ := q; exact ⟨Ca, dx, vs, h0, e _ _ h1 NT.ins, h2.keep R k⟩
theorem Rel.noCode {K : PySem.W.Frag} {cl : ClsT} {H : Hp} {C : CH} (R : Rel K cl H C) {c : Addr} {q : Str} (h : H c = some (CodeO c q)) : C c = none := by
  cases e : C c with
  | none => rfl
  | some o =>
    obtain ⟨u, h1, _, h3⟩ := (R c o e).odd
    rw [h] at h1
    exact (h3 q (Option.some.inj h1).symm).elim
/-- work(), of the value in slot 0 -/
noncomputable def cAct (act : SemA) (i : Nat) (ex : Kxs) : CTE := fun σ C Q => ∃ d, σ[i]? = some (some d) ∧ act d C Q fun y C' => ex y σ C'
/-- in the context X the value in slot 0 may be called: by act -/
noncomputable def ActOk (X : Cx) (cl : ClsT) (act : SemA) (H1 : Hp) (C1 : CH) : Prop := ∀ (pn : List (Addr × Obj)) (xe : Value → Shared → Prop) (H0 : Hp) (C0 : CH) (ex : Kxs), Keep H1 C1 H0 C0 → Takes (X.tr pn xe) (WC X.K cl H0 C0 ex) →
  ∀ (a : Str) (p1 p2 : Pos), X.N[0]? = some a → Vis X.env.scope a → (a == ("__debug__" : Str)) = false → (a == ("__classdict__" : Str)) = false → CPE (X.tr pn xe) cl H0 C0 (.Call (.Name a p1) [] [] p2) (cAct act 0 ex)
/-- the lambda's reading, as what is meant by calling it -/
noncomputable def lamAct (ce : Kxs → CTE) (fa : Addr) (σ : Env3) : SemA := fun d C Q E => d = .ref fa ∧ ce (fun y _ C' => E y C') σ C Q
/-- g(lambda: e) -/
noncomputable def cLam (lam : SemA → SemF) (ce : Kxs → CTE) (ex : Kxs) : CTE := fun σ C Q => ∀ fa, C fa = none → lam (lamAct ce fa σ) [.ref fa] C Q fun y C' => ex y σ C'
/-- the lambda's body in its context -/
noncomputable def LamBody (X : Cx) (cl : ClsT) (m : Nat) (scope : Scope) (body : Expr) (ce : Kxs → CTE) : Prop := ∀ (A : Around) (outer : List Env) (s : Shared) (H : Hp) (E : XK) (f c' : Addr) (H0 : Hp) (C0 : CH) (ex : Kxs),
  Room m (A.deeper (lamEnv X scope s.heap.objs.size f c')) → A.guards = some [] → Takes (lamCx X A outer s H E scope f c') (WC X.K cl H0 C0 ex) → CPE (lamCx X A outer s H E scope f c') cl H0 C0 body (ce ex)
section
variable {X : Cx} {cl : ClsT} {pins : List (Addr × Obj)} {σ : L2.St} {H : Hp} {s : Shared}
theorem act_ok {CXg : CXT} {Eg : XK} {Ng : List Str} {qg : Str} {sg : Scope} {g f c' : Addr} {cdg pm ctv : Value} {params : Arguments} {body : Expr} {scope : Scope} {m : Nat} {ce : Kxs → CTE} {σc : Env3} {C : CH}
    (I : Inv X pins σ H s) (L : LamS X.env.scope scope) (hf : s.heap.get? f = some (PySem.W.kla_obj "<lambda>" (X.env.qual ++ "<lambda>") params body scope (cloFrom X.env.cells scope.names []) pm c' ctv)) (hfn : H f = none) (hfr : f ∉ frs X.stack)
    (hbind : bindArgs (PySem.W.kla_fn "<lambda>" (X.env.qual ++ "<lambda>") params body scope (cloFrom X.env.cells scope.names []) pm (.ref c') ctv) ⟨[], []⟩ = pure [])
    (hco : H c' = some (CodeO c' (X.env.qual ++ "<lambda>"))) (rs : RepS X.K H σc σ) (R : Rel X.K cl H C) (hgd : X.A.guards = some []) (hr : Room (m + 1) (X.A.deeper (envOfC qg sg s.heap.objs.size g cdg))) (hbody : LamBody X cl m scope body ce) :
    ActOk (cxOf CXg X.prog X.w X.K X.mg X.base Ng qg sg g cdg X.A X.stack s H Eg) cl (lamAct ce f σc) H C := by
  intro pn xe H0 C0 ex k0 tk a p1 p2 hN hv hd hcd
  refine ⟨fun pinsZ sZ σZ HZ Q IZ ⟨σZc, CZ, Qc, S, ⟨d, hs, ed, ht⟩, hq⟩ => ?_⟩
  subst ed
  obtain ⟨v, hs', rv⟩ := S.s.get hs
  cases rv
  have kZ : Keep H C HZ CZ := k0.trans S.f
  have hc : HZ c' = some (CodeO c' (X.env.qual ++ "<lambda>")) := (kZ c' _ hco (R.noCode hco) .ext).1
  refine wpAny_Call_Name_kw (thn ((pe_var (X := (cxOf CXg X.prog X.w X.K X.mg X.base Ng qg sg g cdg X.A X.stack s H Eg).tr pn xe) (pos := p1) (i := 0) hN hv hd hcd).run pinsZ sZ σZ HZ (fun v H1 => v = .ref f ∧ H1 = HZ) IZ ⟨.ref f, hs', rfl, rfl⟩) fun u s1 ⟨v, H1, I1, r1, q1⟩ => ?_)
  obtain ⟨ev, eH⟩ := q1
  subst ev
  rw [eH] at I1
  obtain rfl : u = Value.ref f := r1
  have of1 : s1.heap.get? f = some (PySem.W.kla_obj "<lambda>" (X.env.qual ++ "<lambda>") params body scope (cloFrom X.env.cells scope.names []) pm c' ctv) := I1.base.keep f _ hf hfn hfr (fun z => nomatch (show f ∈ ([] : List Addr) from z))
  refine PySem.W.callWith_F0 ⟨_, _, _, _, of1⟩ ?_
  have un : Un (frs X.stack) [] H HZ s.heap s1.heap := I1.base
  obtain ⟨⟨oc, vs, t, hoc, hdc, hvc⟩, _, _⟩ := I1.hok c' _ hc
  have rc : codeAny (model X.prog X.w) (X.A.deeper (envOfC qg sg s.heap.objs.size g cdg)) (.call (.ref f) ⟨[], []⟩) (CR (L2.CX X.prog X.w) (envOfC qg sg s.heap.objs.size g cdg :: X.stack) X.prog X.w HZ s1 Q (WE (WC X.K cl H0 C0 ex) σZ)) s1 := by
    refine PySem.W.kla_callFunE hr.depth of1 rfl L.co L.gen rfl ⟨c', oc, vs, t, rfl, hoc, hdc, hvc⟩ ?_
    rw [hbind]
    refine wpAny_pure (wpAny_newFunctionEnv (fun y hy => (L.own y hy).2) (fun y hy => absurd hy (by simp)) (fun h₁ hns hsb => ⟨I1.nolimit.fresh _ hsb, ?_⟩) L.kind)
    show codeAny _ _ (.expr body (lamEnv X scope s1.heap.objs.size f c')) _ _
    have kp : ∀ b o, s1.heap.get? b = some o → h₁.get? b = some o := fun b o e => hsb.extBut b o (Nat.ne_of_lt (Heap.lt_size e)) (Heap.get?_push_of_some _ e)
    have J : Inv (lamCx X (X.A.deeper (envOfC qg sg s.heap.objs.size g cdg)) (envOfC qg sg s.heap.objs.size g cdg :: X.stack) s1 HZ (WE (WC X.K cl H0 C0 ex) σZ) scope f c') [] σ HZ { s1 with heap := h₁, toks := s1.toks + ([] : List (Str × Value)).length } :=
      lam_start2 I L I1.env0 hr.hd un hns kp
    have tkL : Takes (lamCx X (X.A.deeper (envOfC qg sg s.heap.objs.size g cdg)) (envOfC qg sg s.heap.objs.size g cdg :: X.stack) s1 HZ (WE (WC X.K cl H0 C0 ex) σZ) scope f c') (WC X.K cl HZ CZ fun y _ C' => ex y σZc C') :=
      (takes_of (E := WE (WC X.K cl H0 C0 ex) σZ) rfl rfl rfl rfl).imp fun cls d' σ' H' ⟨y, σc', C', q, xr, S'⟩ => ⟨y, σZc, C', q, xr, ⟨S.s.keep S.r S'.f, S'.r, S.f.trans S'.f⟩⟩
    refine PySem.W.kla_codeExpr (wpAny_mono ((hbody _ _ s1 HZ _ f c' HZ CZ _ (hr.deeper _) hgd tkL).run [] _ _ HZ Q J ⟨σc, CZ, Qc, ⟨rs.keep R kZ, S.r, Keep.refl⟩, ht, hq⟩) (fun v s' hq => ?_) fun e s' hq => hq)
    obtain ⟨w', H', J', rv, q⟩ := hq
    exact ⟨w', H', J'.os, J'.bare, J'.base, J'.hok, rv, q⟩
  refine wpAny_call (codeAny_mono rc fun r s' hq => ?_)
  cases r with
  | error e => exact passAt tk σZ pinsZ HZ s1 e s' I1 hq
  | ok fl =>
    cases fl with
    | ret u => exact I1.after hq
    | next => exact False.elim hq
    | brk => exact False.elim hq
    | cont => exact False.elim hq
end
/-- what a def promises that calls what it is given -/
noncomputable def LamAt (P : Program) (w : World) (K : PySem.W.Frag) (mg : Str → Option Value) (base : Heap) (cl : ClsT) (m : Nat) (g : Addr) (lam : SemA → SemF) : Prop := ∃ (N : List Str) (qual : Str) (sg : Scope) (cdg : Value),
  ∀ (A : Around) (out : List Env) (s : Shared) (H : Hp) (C : CH) (f : Addr) (act : SemA) (Q : VK) (E : XK) (Qc : Kv) (Ec : Kx), Room (m + 2) A → A.guards = some [] → Env0 P w K mg base A out s H → Rel K cl H C →
    (Room (m + 1) (A.deeper (envOfC qual sg s.heap.objs.size g cdg)) → ActOk (cxOf (L2.CX P w) P w K mg base N qual sg g cdg A out s H E) cl act H C) →
    lam act [.ref f] C Qc Ec → EndE K cl H C Qc Q → (∀ x C' cls d H', Ec x C' → XRel K cl H' x cls d → Rel K cl H' C' → Keep H C H' C' → E cls d H') →
    codeAny (model P w) A (.call (.ref g) ⟨[.ref f], []⟩) (CR (L2.CX P w) out P w H s Q E) s
section
variable {X : Cx} {cl : ClsT} {H0 : Hp} {C0 : CH}
theorem cpe_lam {x : Str} {g : Addr} {m : Nat} {lam : SemA → SemF} {ce : Kxs → CTE} {ex : Kxs} {r : LamR} {params : Arguments} {body : Expr} {scope : Scope} {p lpos pos : Pos} (hg : Gl X x) (hm : X.mg x = some (.ref g)) (hk : PySem.W.keepIn X.K (.ref g) = true) (hG : LamAt X.prog X.w X.K X.mg X.base cl m g lam)
    (TB : TabB X.base X.mg r.c r.P) (hcode : X.env.code = .ref r.c) (hq : X.env.qual ++ "<lambda>" = r.q) (hr : r ∈ cl.tb) (hu : ∀ p ∈ cl.tb, p.P = r.P → p.q = r.q) (room : Room (m + 2) X.A) (hgd : X.A.guards = some []) (L : LamS X.env.scope scope) (hdef : defaultsOf params X.env = ([], []))
    (hbind : ∀ (q : Str) (cl : List (Str × Addr)) (pm cv ctv : Value), bindArgs (PySem.W.kla_fn "<lambda>" q params body scope cl pm cv ctv) ⟨[], []⟩ = pure []) (tk : Takes X (WC X.K cl H0 C0 ex)) (hbody : LamBody X cl m scope body ce) (hdb : (x == ("__debug__" : Str)) = false) :
    CPE X cl H0 C0 (.Call (.Name x p) [.Lambda params body scope lpos] [] pos) (cLam lam ce ex) := by
  refine ⟨fun pins s σ H Q I ⟨σc, C, Qc, S, h, hE⟩ => ?_⟩
  refine wpAny_Call_Name_kw (ld_glob I hg hm ?_ hdb)
  refine PySem.W.callWith_K (h₀ := X.base) I.ok.mod.kin hk ?_ (by rfl) (by rfl)
  show wpAny _ _ (spliced ((false, eval (.Lambda params body scope lpos) X.env) :: backTo pos (starEach [] X.env))) _ _ s
  refine Calls.spliced_cons (lam_make2 (T := tabsOf cl) I TB hcode (List.mem_map.mpr ⟨r, hr, by rw [hq]⟩) (fun q hq' e => ?_) S.r.tab hdef (L.has I.ok) fun f c' pm' ctv H1 s' I1 eN T1 hf hfn hfr hco => ?_)
  · obtain ⟨r', h1, h2⟩ := List.mem_map.mp hq'
    subst h2
    rw [hq]
    exact hu r' h1 e
  refine Calls.spliced_nil ⟨I1.kIn, ?_⟩
  obtain ⟨R1, k1⟩ := S.r.extN eN T1
  obtain ⟨N, qual, sg, cdg, G⟩ := hG
  have S1 := S.step k1 R1
  have rc := G X.A X.stack s' H1 C f (lamAct ce f σc) Q (WE (WC X.K cl H0 C0 ex) σ) Qc (fun y C' => ex y σc C') room hgd I1.env0 R1 (fun hr => act_ok I1 L hf hfn hfr (hbind _ _ _ _ _) hco S1.s R1 hgd hr hbody) (h f (free_of R1 hfn)) (hE.from_ k1)
    fun x C' cls d H' hx xr R' k' => ⟨x, σc, C', hx, xr, S1.step k' R'⟩
  refine wpAny_call (codeAny_mono rc fun r s2 hq => ?_)
  cases r with
  | error e => exact passAt tk σ pins H1 s' e s2 I1 hq
  | ok fl =>
    cases fl with
    | ret u => exact I1.after hq
    | next => exact False.elim hq
    | brk => exact False.elim hq
    | cont => exact False.elim hq
end
end L3
namespace L3N
open PySem PySem.Spec PyProof.Rows PySem.SeqAt
open AutoSeq1 (wpAny_loadPart')
open MeetsSeq MeetsSeq2 MeetsSeq3
section
theorem dict_ne_tuple (a b : Addr) (items2 : Array Value) (n2 : Nat) (dd2 : Option Addr) (sl2 : Array (Option Value)) :
    Meets (Builtin.«dict.__ne__» ⟨[.ref a, .ref b], []⟩) (fun _ R s => s.heap.get? b = some { cls := .type "tuple", dict := dd2, data := .seq items2 n2, slots := sl2 } ∧ R (.ok (.ret .notImplemented)) s) :=
  .of_wp fun prog w A R s h => by obtain ⟨hp, g, d, tk, os⟩ := s; obtain ⟨hb, h⟩ := h; have f1 := F.sub_tuple_dict; wp_walk using wpAny_loadPart' hb; exact ⟨_, rfl, h⟩
theorem tuple_ne_dict (l b : Addr) (o2 : Obj) (h2 : o2.cls = .type "dict") (items : Array Value) (n : Nat) (dd : Option Addr) (sl : Array (Option Value)) :
    Meets (Builtin.«tuple.__ne__» ⟨[.ref l, .ref b], []⟩) (fun _ R s => s.heap.get? l = some { cls := .type "tuple", dict := dd, data := .seq items n, slots := sl } ∧ s.heap.get? b = some o2 ∧ R (.ok (.ret .notImplemented)) s) :=
  .of_wp fun prog w A R s h => by
    obtain ⟨hp, g, d, tk, os⟩ := s; obtain ⟨hl, hb, h⟩ := h
    have f1 := F.sub_dict_tuple
    obtain ⟨c2, d2, dt2, s2⟩ := o2
    simp only at h2; subst h2
    wp_walk using wpAny_loadPart' hl, wpAny_loadPart' hb
    exact ⟨_, rfl, h⟩
section
variable {A : Around} {s : Shared}
theorem ne_dict_tuple {l b : Addr} {o : Obj} {items2 : Array Value} (ho : s.heap.get? l = some o) (hc : o.cls = .type "dict") (hb : s.heap.IsTuple b items2) (hu : A.units < cLine) : RcNeAt A s (.ref l) (.ref b) true := fun prog w E Q h => by
  obtain ⟨⟨cls2, dd2, data2, sl2⟩, ho2, hc2, n2, hd2⟩ := id hb
  simp only at hc2 hd2
  subst hc2 hd2
  have hne : l ≠ b := fun e => by rw [e, ho2] at ho; cases ho; exact absurd hc (by simp)
  exact (rc_ne_decline_or (k := false) ⟨_, ho, hc⟩ ⟨_, ho2, rfl⟩ (by decide) F.sub_tuple_dict F.slot_dict_ne F.slot_tuple_ne_refl
    (fun _ hq => call_meets F.slot_dict_ne ⟨_, ho, hc⟩ F.entry_dict_ne (F.args_dict_ne_2 _ _) (dict_ne_tuple l b items2 n2 dd2 sl2) ⟨ho2, hq⟩)
    (fun _ hq => call_meets F.slot_tuple_ne_refl ⟨_, ho2, rfl⟩ F.entry_tuple_ne (F.args_tuple_ne_2 _ _) (tuple_ne_dict b l o hc items2 n2 dd2 sl2) ⟨ho2, ho, hq⟩)
    (fun _ hq => wpAny_isSame_ref_other hne ho ho2 (by rw [hc]; simp) hq) (.inr hu) h)
theorem ne_tup_unit {l b : Addr} {items : Array Value} (hl : s.heap.IsTuple l items) (hb : s.heap.IsTuple b #[]) (hu : A.units < cLine) : RcNeAt A s (.ref l) (.ref b) (!(items.size == 0)) := by
  have := RcNeAt.tuples (e := fun _ => true) hl hb hu (fun j h1 h2 => by simp at h2)
  simpa using this
end
end
end L3N
namespace L3
open PySem L2 PySem.Spec PyProof.Rows PySem.SeqAt
section
variable {X : Cx} {cl : ClsT} {K : PySem.W.Frag}
noncomputable def rNeU (K : PySem.W.Frag) : R2 := fun x y H Q => ∃ b, y = .ref b ∧ SqT K H b [] ∧
  (((x = .non ∨ (∃ i, x = .int i) ∨ (∃ t, x = .bl t) ∨ ∃ z, x = .str z) ∧ Q (.bl true) H) ∨
   (∃ a vs, x = .ref a ∧ SqL K H a vs ∧ Q (.bl true) H) ∨ (∃ a kvs, x = .ref a ∧ H a = some (.dK kvs) ∧ Q (.bl true) H) ∨
   ∃ a vs, x = .ref a ∧ SqT K H a vs ∧ Q (.bl (!(vs.length == 0))) H)
theorem op_neU (hu : X.A.units < cLine) : OpR X (compareOp .NotEq) (rNeU X.K) := by
  intro pins s σ H x y v u Q I rx ry ⟨b, e, ht, h⟩
  subst e
  rw [show u = .ref b from ry]
  obtain ⟨its, r1, hb, _⟩ := I.tuple ht
  cases r1
  rcases h with ⟨h, q⟩ | ⟨a, vs, rfl, h, q⟩ | ⟨a, kvs, rfl, h, q⟩ | ⟨a, vs, rfl, h, q⟩
  · rcases h with rfl | ⟨i, rfl⟩ | ⟨t, rfl⟩ | ⟨z, rfl⟩
    · rw [show v = .none from rx]; exact RcNeAt.none_tuple hb hu _ _ _ _ ⟨.bl _, H, I, rfl, q⟩
    · obtain ⟨t, rfl⟩ := rx; exact RcNeAt.int_tuple i t hb hu _ _ _ _ ⟨.bl _, H, I, rfl, q⟩
    · rw [show v = .bool t from rx]; exact RcNeAt.bool_tuple t hb hu _ _ _ _ ⟨.bl _, H, I, rfl, q⟩
    · obtain ⟨t, rfl⟩ := rx; exact RcNeAt.str_tuple z t hb hu _ _ _ _ ⟨.bl _, H, I, rfl, q⟩
  · rw [show v = .ref a from rx]
    obtain ⟨its, r2, ⟨o, n, ho, hc, hd, hs⟩, _⟩ := I.list h
    exact RcNeAt.list_tuple (items := its.toArray) ⟨o, ho, hc, n, hs⟩ hb hu _ _ _ _ ⟨.bl _, H, I, rfl, q⟩
  · rw [show v = .ref a from rx]
    obtain ⟨_, _, vs, _, o, es, ep, ho, hx, _⟩ := dk_of I.hok h
    exact L3N.ne_dict_tuple ho hx.1 hb hu _ _ _ _ ⟨.bl _, H, I, rfl, q⟩
  · rw [show v = .ref a from rx]
    obtain ⟨its, r2, ha, _⟩ := I.tuple h
    refine L3N.ne_tup_unit ha hb hu _ _ _ _ ⟨.bl _, H, I, rfl, ?_⟩
    rw [r2.length] at q
    simpa using q
noncomputable def oNeU : O2 := fun x y C Q => y = .tup [] ∧ match x with
  | .non => Q (.bl true) C
  | .int _ => Q (.bl true) C
  | .bl _ => Q (.bl true) C
  | .str _ => Q (.bl true) C
  | .tup ds => Q (.bl (!(ds.length == 0))) C
  | .ref p => ((∃ xs, C p = some (.lst xs)) ∨ ∃ kvs, C p = some (.dic kvs)) ∧ Q (.bl true) C
  | _ => False
theorem lk_neU : Lk2 K cl (rNeU K) oNeU := fun H C d e v u Q Qc rd re R ⟨h1, h2⟩ hq => by
  subst h1
  cases re with
  | tup s r =>
    cases r
    refine ⟨_, rfl, s, ?_⟩
    cases d with
    | non => cases rd; exact .inl ⟨.inl rfl, hq.now h2 (.bl _) R⟩
    | int i => cases rd; exact .inl ⟨.inr (.inl ⟨_, rfl⟩), hq.now h2 (.bl _) R⟩
    | bl t => cases rd; exact .inl ⟨.inr (.inr (.inl ⟨_, rfl⟩)), hq.now h2 (.bl _) R⟩
    | str z => cases rd; exact .inl ⟨.inr (.inr (.inr ⟨_, rfl⟩)), hq.now h2 (.bl _) R⟩
    | tup ds =>
      cases rd with
      | tup s2 r2 =>
        refine .inr (.inr (.inr ⟨_, _, rfl, s2, ?_⟩))
        rw [← r2.length]
        exact hq.now h2 (.bl _) R
    | ref p =>
      cases rd
      obtain ⟨h3 | h3, q⟩ := h2
      · obtain ⟨xs, h3⟩ := h3
        obtain ⟨vs, e1, _⟩ := R p _ h3
        exact .inr (.inl ⟨p, vs, rfl, SqL.of e1, hq.now q (.bl _) R⟩)
      · obtain ⟨xs, h3⟩ := h3
        obtain ⟨vs, e1, _⟩ := R p _ h3
        exact .inr (.inr (.inl ⟨p, vs, rfl, e1, hq.now q (.bl _) R⟩))
    | _ => exact h2.elim
end
end L3
namespace L3
open PySem L2
/-- built-in functions -/
inductive BI where
  | len
  | int
  | list
  | tuple
  | all
  | maxL
  | min2
  | repr
  | str
  | intS
  deriving DecidableEq
/-- methods of built-ins -/
inductive MI where
  | append
  | popAt
  | join
  deriving DecidableEq
inductive OpB where
  | add
  | sub
  | mul
  | fdiv
  | mod
  | pow
  | mulX
  deriving DecidableEq
inductive OpC where
  | eq
  | ne
  | lt
  | le
  | gt
  | ge
  | is
  | isNot
  | inD
  | inF
  | notInF
  | inS
  | notInS
  | neU
  deriving DecidableEq
/-- what is walked -/
inductive IK where
  | seq
  | txt
  | rg1
  deriving DecidableEq
inductive CE where
  | var (i : Nat)
  | cst (d : D)
  | glb (x : Str) (d : D)
  | bin (o : OpB) (a b : CE)
  | neg (a : CE)
  | cmp (o : OpC) (a b : CE)
  | chain (o o' : OpC) (a b c : CE)
  | and (a b : CE)
  | or (a b : CE)
  | not (a : CE)
  | ite (t a b : CE)
  | tup (es : List CE)
  | lst (es : List CE)
  | dic (ks vs : List CE)
  | dic0
  | nev
  | idx (a b : CE)
  | slice (a : CE) (lo hi : Option CE)
  | call (f np n m : Nat) (g : List Src) (es ks : List CE)
  | isi (u : String ⊕ Nat) (a : CE)
  | fmt (a : CE)
  | fst (es : List CE)
  | bi (b : BI) (es : List CE)
  | mt (m : MI) (o : CE) (es : List CE)
  | lc (e : CE) (T : CT) (vs : List Nat) (k : IK) (it : List CE) (ifs : List CE)
  | lam (g : Nat) (e : CE)
/-- what is said of a caught exception (isx: isinstance of it) -/
inductive IE where
  | leaf (e : CE) | isx (ans : List (Nat × Bool)) (u : String ⊕ Nat) (j : Nat) | isxT (ans : List (Nat × Bool)) (us : List (String ⊕ Nat)) (j : Nat) | lst3 (a b c : IE) | or3 (a b c : IE) | and2 (a b : IE) | and3 (a b c : IE) | or2 (a b : IE) | not (a : IE) | ite (t a b : IE)
/-- the one statement of a try that calls what was given: i = work(), i = [work()], work() -/
inductive LF where
  | asg (i : Nat) | lst (i : Nat) | drop
/-- a statement behind a caught exception -/
inductive IS where
  | skip (t : CE) | asg (i : Nat) (e : IE) | ifR (t : IE) (e : CE) | ret (e : IE)
inductive CS where
  | pass
  | cont
  | expr (e : CE)
  | ret (e : CE)
  | ifS (t : CE) (a b : List CS)
  | asg (T : CT) (e : CE)
  | par (i j : Nat) (a b : CE)
  | par3 (i j l : Nat) (a b c : CE)
  | setI (o i e : CE)
  | never
  | augN (i : Nat) (o : OpB) (e : CE)
  | forS (T : CT) (k : IK) (it : List CE) (body : List CS)
  | whileS (t : CE) (body : List CS)
  | raise (c : Nat)
  | tryK (cs : List Nat) (i : Nat) (body suite rest : List CS) (t : CE) (ie : IE)
  | tryL (cs : List Nat) (i : Nat) (lf : LF) (suite rest : List CS) (is : List IS)
/-- what a body leans on -/
structure G3 where
  call : Nat → SemF
  make : Nat → SemF
  kit : String ⊕ Nat → String ⊕ Nat → Option Bool
  lam : Nat → SemA → SemF
  act : SemA
  call2 : Nat → SemF
  make2 : Nat → SemF
noncomputable def lam0 : Nat → SemA → SemF := fun _ _ _ _ _ _ => False
noncomputable def act0 : SemA := fun _ _ _ _ => False
noncomputable def sem0 : Nat → SemF := fun _ _ _ _ _ => False
/-- what a lambda's body leans on: two calls deeper -/
noncomputable def G3.dn (G : G3) : G3 := ⟨G.call2, G.make2, G.kit, lam0, act0, sem0, sem0⟩
noncomputable def oAddA : O2 := fun x y C Q => match x, y with
  | .int i, .int j => Q (.int (i + j)) C
  | .str i, .str j => i.length + j.length ≤ sizeLine ∧ Q (.str (i ++ j)) C
  | .tup xs, .tup ys => xs.length + ys.length ≤ sizeLine ∧ Q (.tup (xs ++ ys)) C
  | .ref a, .ref b => ∃ xs ys, C a = some (.lst xs) ∧ C b = some (.lst ys) ∧ xs.length + ys.length ≤ sizeLine ∧ ∀ p, C p = none → Q (.ref p) (cup C p (.lst (xs ++ ys)))
  | _, _ => False
noncomputable def oI2 (P : Int → Int → Prop) (g : Int → Int → D) : O2 := fun x y C Q => match x, y with
  | .int i, .int j => P i j ∧ Q (g i j) C
  | _, _ => False
noncomputable def semB : OpB → O2
  | .add => oAddA
  | .sub => oI2 (fun _ _ => True) fun i j => .int (i - j)
  | .mul => oMulA
  | .mulX => oI2 CMulX fun i j => .int (i * j)
  | .fdiv => oI2 CDivN fun i j => .int (i.fdiv j)
  | .mod => oI2 (fun _ j => j ≠ 0) fun i j => .int (i.fmod j)
  | .pow => oI2 CPow fun i j => .int (i ^ j.toNat)
noncomputable def semC : OpC → O2
  | .eq => oEqN id
  | .ne => oEqN not
  | .lt => oI2 (fun _ _ => True) fun i j => .bl (decide (i < j))
  | .le => oI2 (fun _ _ => True) fun i j => .bl (decide (i ≤ j))
  | .gt => oI2 (fun _ _ => True) fun i j => .bl (decide (j < i))
  | .ge => oI2 (fun _ _ => True) fun i j => .bl (decide (j ≤ i))
  | .is => oIs id
  | .isNot => oIs not
  | .inD => oInD id
  | .inF => oInF id
  | .notInF => oInF not
  | .inS => oInS id
  | .notInS => oInS not
  | .neU => oNeU
noncomputable def oNeg : O1 := fun d C Q => match d with
  | .int i => Q (.int (-i)) C
  | _ => False
noncomputable def semBI : BI → OL
  | .len => oLen
  | .int => oInt
  | .list => oList
  | .tuple => oTuple
  | .all => oAll fun bs => .bl (bs.all id)
  | .maxL => oMaxL
  | .min2 => oMin2
  | .repr => oRepr
  | .str => oStrI
  | .intS => oIntS
noncomputable def semMI : MI → OM
  | .append => oAppend
  | .popAt => oPopAt
  | .join => oJoin
noncomputable def tyMI : MI → D → CH → Prop
  | .join => isStr
  | _ => isLst
noncomputable def semIK : IK → List CTE → CTI
  | .seq, [a] => iSeq a
  | .txt, [a] => iTxt a
  | .rg1, [a] => iRg1 (cCons a cNil)
  | _, _ => fun _ _ _ => False
noncomputable def cChain (o o' : O2) (a b c : CTE) : CTE := fun σ C Q => a σ C fun d C1 => b σ C1 fun e C2 => o d e C2 fun z C3 => ∃ k, z = .bl k ∧ if k = true then c σ C3 fun f C4 => o' e f C4 Q else Q (.bl false) C3
/-- the pairs of a display, from the left -/
noncomputable def cPrs (ks vs : List CTE) : Env3 → CH → (List (D × D) → CH → Prop) → Prop := fun σ C Q => match ks, vs with
  | k :: ks, v :: vs => k σ C fun d C1 => v σ C1 fun e C2 => cPrs ks vs σ C2 fun ps C3 => Q ((d, e) :: ps) C3
  | _, _ => Q [] C
noncomputable def dicOf (ps : List (Key × D)) : List (Key × D) := ps.foldl (fun acc p => putC acc p.1 p.2) []
noncomputable def cDic (ks vs : List CTE) : CTE := fun σ C Q => cPrs ks vs σ C fun ps C1 => ∃ kvs : List (Key × D), kvs.map (fun p => p.2) = ps.map (·.2) ∧ ps.map (fun p => keyD p.1) = kvs.map (fun p => some p.1) ∧ kvs.length ≤ 15 ∧ ∀ p, C1 p = none → Q (.ref p) (cup C1 p (.dic (dicOf kvs)))
/-- {}, to be a dict of words and numbers -/
noncomputable def cDic0 : CTE := fun _ C Q => ∀ p, C p = none → Q (.ref p) (cup C p (.dic []))
/-- what is never reached -/
noncomputable def cNev : CTE := fun _ _ _ => False
mutual
noncomputable def rdE (G : G3) (ex : Kxs) : CE → CTE
  | .var i => cVar i
  | .cst d => cC d
  | .glb _ d => cC d
  | .bin o a b => cBin (semB o) (rdE G ex a) (rdE G ex b)
  | .neg a => cUn oNeg (rdE G ex a)
  | .cmp o a b => cBin (semC o) (rdE G ex a) (rdE G ex b)
  | .chain o o' a b c => cChain (semC o) (semC o') (rdE G ex a) (rdE G ex b) (rdE G ex c)
  | .and a b => cAndV (rdE G ex a) (rdE G ex b)
  | .or a b => cOrV (rdE G ex a) (rdE G ex b)
  | .not a => cNotV (rdE G ex a)
  | .ite t a b => cIf (rdT G ex t) (rdE G ex a) (rdE G ex b)
  | .tup es => cList oTup (rdA G ex es)
  | .lst es => cList oLst (rdA G ex es)
  | .dic ks vs => cDic (rdLs G ex ks) (rdLs G ex vs)
  | .idx a b => cBin oIxA (rdE G ex a) (rdE G ex b)
  | .dic0 => cDic0
  | .nev => cNev
  | .slice a lo hi => cSl (rdE G ex a) (rdO G ex lo) (rdO G ex hi)
  | .call f np n m g es ks => cCall (G.call f) np n m g ex (rdA G ex es) (rdA G ex ks)
  | .isi u a => cUn (oIsi G.kit u) (rdE G ex a)
  | .fmt a => cFmt (rdE G ex a)
  | .fst es => cFst (rdLs G ex es)
  | .bi b es => cList (semBI b) (rdA G ex es)
  | .mt m o es => cMt (tyMI m) (semMI m) (rdE G ex o) (rdA G ex es)
  | .lc e T vs k it ifs => cLc (semIK k (rdLs G ex it)) T vs (rdIfs G (fun _ _ _ => False) ifs) (rdE G (fun _ _ _ => False) e)
  | .lam g e => cLam (G.lam g) (fun ex' => rdE G.dn ex' e) ex
noncomputable def rdT (G : G3) (ex : Kxs) : CE → CTT
  | .and a b => cAnd (rdT G ex a) (rdT G ex b)
  | .or a b => cOr (rdT G ex a) (rdT G ex b)
  | .not a => cNot (rdT G ex a)
  | .var i => cTst (cVar i)
  | .cst d => cTst (cC d)
  | .glb _ d => cTst (cC d)
  | .bin o a b => cTst (cBin (semB o) (rdE G ex a) (rdE G ex b))
  | .neg a => cTst (cUn oNeg (rdE G ex a))
  | .cmp o a b => cTst (cBin (semC o) (rdE G ex a) (rdE G ex b))
  | .chain o o' a b c => cTst (cChain (semC o) (semC o') (rdE G ex a) (rdE G ex b) (rdE G ex c))
  | .ite t a b => cTst (cIf (rdT G ex t) (rdE G ex a) (rdE G ex b))
  | .tup es => cTst (cList oTup (rdA G ex es))
  | .lst es => cTst (cList oLst (rdA G ex es))
  | .dic ks vs => cTst (cDic (rdLs G ex ks) (rdLs G ex vs))
  | .idx a b => cTst (cBin oIxA (rdE G ex a) (rdE G ex b))
  | .dic0 => cTst cDic0
  | .nev => cTst cNev
  | .slice a lo hi => cTst (cSl (rdE G ex a) (rdO G ex lo) (rdO G ex hi))
  | .call f np n m g es ks => cTst (cCall (G.call f) np n m g ex (rdA G ex es) (rdA G ex ks))
  | .isi u a => cTst (cUn (oIsi G.kit u) (rdE G ex a))
  | .fmt a => cTst (cFmt (rdE G ex a))
  | .fst es => cTst (cFst (rdLs G ex es))
  | .bi b es => cTst (cList (semBI b) (rdA G ex es))
  | .mt m o es => cTst (cMt (tyMI m) (semMI m) (rdE G ex o) (rdA G ex es))
  | .lc e T vs k it ifs => cTst (cLc (semIK k (rdLs G ex it)) T vs (rdIfs G (fun _ _ _ => False) ifs) (rdE G (fun _ _ _ => False) e))
  | .lam g e => cTst (cLam (G.lam g) (fun ex' => rdE G.dn ex' e) ex)
noncomputable def rdA (G : G3) (ex : Kxs) : List CE → CTA
  | [] => cNil
  | e :: es => cCons (rdE G ex e) (rdA G ex es)
noncomputable def rdLs (G : G3) (ex : Kxs) : List CE → List CTE
  | [] => []
  | e :: es => rdE G ex e :: rdLs G ex es
noncomputable def rdIfs (G : G3) (ex : Kxs) : List CE → CTT
  | [] => cYes
  | [e] => rdT G ex e
  | _ => fun _ _ _ => False
noncomputable def rdO (G : G3) (ex : Kxs) : Option CE → CTO
  | none => cNoPart
  | some e => cPart (rdE G ex e)
end
/-- x += e of numbers and texts -/
noncomputable def oAug : OpB → O2
  | .add => fun x y C Q => match x, y with
    | .int i, .int j => Q (.int (i + j)) C
    | .str i, .str j => i.length + j.length ≤ sizeLine ∧ Q (.str (i ++ j)) C
    | _, _ => False
  | .sub => oI2 (fun _ _ => True) fun i j => .int (i - j)
  | _ => fun _ _ _ _ => False
mutual
noncomputable def rdI (G : G3) (ex : Kxs) (a cc : Nat) : IE → CTE
  | .leaf e => rdE G ex e
  | .isx ans _ j => cIsx ans j a cc
  | .isxT ans _ j => cIsx ans j a cc
  | .lst3 x y z => cList oLst (cCons (rdI G ex a cc x) (cCons (rdI G ex a cc y) (cCons (rdI G ex a cc z) cNil)))
  | .or3 x y z => cOrV (rdI G ex a cc x) (cOrV (rdI G ex a cc y) (rdI G ex a cc z))
  | .and2 x y => cAndV (rdI G ex a cc x) (rdI G ex a cc y)
  | .and3 x y z => cAndV (rdI G ex a cc x) (cAndV (rdI G ex a cc y) (rdI G ex a cc z))
  | .or2 x y => cOrV (rdI G ex a cc x) (rdI G ex a cc y)
  | .not x => cNotV (rdI G ex a cc x)
  | .ite t x y => cIf (rdIT G ex a cc t) (rdI G ex a cc x) (rdI G ex a cc y)
noncomputable def rdIT (G : G3) (ex : Kxs) (a cc : Nat) : IE → CTT
  | .leaf e => rdT G ex e
  | .isx ans _ j => cTst (cIsx ans j a cc)
  | .isxT ans _ j => cTst (cIsx ans j a cc)
  | .lst3 x y z => cTst (cList oLst (cCons (rdI G ex a cc x) (cCons (rdI G ex a cc y) (cCons (rdI G ex a cc z) cNil))))
  | .or3 x y z => cOr (rdIT G ex a cc x) (cOr (rdIT G ex a cc y) (rdIT G ex a cc z))
  | .and2 x y => cAnd (rdIT G ex a cc x) (rdIT G ex a cc y)
  | .and3 x y z => cAnd (rdIT G ex a cc x) (cAnd (rdIT G ex a cc y) (rdIT G ex a cc z))
  | .or2 x y => cOr (rdIT G ex a cc x) (rdIT G ex a cc y)
  | .not x => cNot (rdIT G ex a cc x)
  | .ite t x y => cTst (cIf (rdIT G ex a cc t) (rdI G ex a cc x) (rdI G ex a cc y))
end
/-- behind a try that has caught: if n is None: .. is passed by, then return ie -/
noncomputable def sCaught (G : G3) (ex : Kxs) (cs : List Nat) (t : CE) (ie : IE) (a cc : Nat) : CTS := fun D σ C => if decide (cc ∈ cs) = true then sSeq (sIf (rdT G ex t) (fun _ _ _ => False) sNext) (sRet (rdI G ex a cc ie)) D σ C else False
noncomputable def rdIS (G : G3) (ex : Kxs) (a cc : Nat) : List IS → CTS
  | [] => sNext
  | .skip t :: r => sSeq (sIf (rdT G ex t) (fun _ _ _ => False) sNext) (rdIS G ex a cc r)
  | .asg i e :: r => sSeq (sAsg (rdI G ex a cc e) (hT (.nm i))) (rdIS G ex a cc r)
  | .ifR t e :: r => sSeq (sIf (rdIT G ex a cc t) (sSeq (sRet (rdE G ex e)) sNext) sNext) (rdIS G ex a cc r)
  | .ret e :: _ => sRet (rdI G ex a cc e)
noncomputable def sCaughtL (G : G3) (ex : Kxs) (cs : List Nat) (is : List IS) (a cc : Nat) : CTS := fun D σ C => if decide (cc ∈ cs) = true then rdIS G ex a cc is D σ C else False
noncomputable def sLF (G : G3) (ex : Kxs) : LF → CTS
  | .asg i => sAsg (cAct G.act 0 ex) (hT (.nm i))
  | .lst i => sAsg (cList oLst (cCons (cAct G.act 0 ex) cNil)) (hT (.nm i))
  | .drop => sDrop (cAct G.act 0 ex)
noncomputable def sAug (i : Nat) (o : O2) (e : CTE) : CTS := fun D σ C => ∃ d, σ[i]? = some (some d) ∧ e σ C fun z C1 => o d z C1 fun w C2 => D.nx (σ.set i (some w)) C2
mutual
noncomputable def rdS (G : G3) (ex : Kxs) : CS → CTS
  | .pass => sNext
  | .cont => sCont
  | .expr e => sDrop (rdE G ex e)
  | .ret e => sRet (rdE G ex e)
  | .ifS t a b => sIf (rdT G ex t) (rdSs G ex a) (rdSs G ex b)
  | .asg T e => sAsg (rdE G ex e) (hT T)
  | .par i j a b => sPar i j (rdA G ex [a, b])
  | .par3 i j l a b c => sPar3 i j l (rdA G ex [a, b, c])
  | .setI o i e => sSet (rdE G ex e) (rdE G ex o) (rdE G ex i) (fun x y z C Q => oSetL x y z C Q ∨ oSetD x y z C Q)
  | .never => sNever
  | .augN i o e => sAug i (oAug o) (rdE G ex e)
  | .forS T k it body => sFor (semIK k (rdLs G ex it)) (hT T) (rdSs G ex body)
  | .whileS t body => sWhile (rdT G ex t) (rdSs G ex body)
  | .raise c => sRaise c ex
  | .tryK cs i body suite rest t ie => fun D σ C => rdSs G (fun y σ1 C1 => if decide (y.cls ∈ cs) = true then y.fs = [] ∧ ∀ a, C1 a = none → rdSs G (fun _ _ _ => False) suite { nx := fun σ2 C2 => sCaught G ex cs t ie a y.cls D (σ2.set i none) C2, rt := fun _ _ => False } (σ1.set i (some (.ref a))) C1 else ex y σ1 C1) body { D with nx := fun σ2 C2 => rdSs G ex rest D σ2 C2 } σ C
  | .tryL cs i lf suite rest is => fun D σ C => sLF G (fun y σ1 C1 => if decide (y.cls ∈ cs) = true then y.fs = [] ∧ ∀ a, C1 a = none → rdSs G (fun _ _ _ => False) suite { nx := fun σ2 C2 => sCaughtL G ex cs is a y.cls D (σ2.set i none) C2, rt := fun _ _ => False } (σ1.set i (some (.ref a))) C1 else ex y σ1 C1) lf { D with nx := fun σ2 C2 => rdSs G ex rest D σ2 C2 } σ C
noncomputable def rdSs (G : G3) (ex : Kxs) : List CS → CTS
  | [] => sNext
  | s :: r => sSeq (rdS G ex s) (rdSs G ex r)
end
end L3
namespace L3
open PySem L2
mutual
noncomputable def beqD : D → D → Bool
  | .non, .non => true
  | .bl a, .bl b => a == b
  | .int a, .int b => a == b
  | .str a, .str b => decide (a = b)
  | .ty a, .ty b => decide (a = b)
  | .tup a, .tup b => beqDs a b
  | .rls a, .rls b => beqDs a b
  | .ref a, .ref b => Nat.beq a b
  | _, _ => false
noncomputable def beqDs : List D → List D → Bool
  | [], [] => true
  | a :: as, b :: bs => beqD a b && beqDs as bs
  | _, _ => false
end
mutual
theorem beqD_eq : ∀ {a b : D}, beqD a b = true → a = b
  | .non, b, h => by cases b <;> first | rfl | (simp [beqD] at h)
  | .bl a, b, h => by cases b <;> simp [beqD] at h; rw [h]
  | .int a, b, h => by cases b <;> simp [beqD] at h; rw [h]
  | .str a, b, h => by cases b <;> simp [beqD] at h; rw [h]
  | .ty a, b, h => by cases b <;> simp [beqD] at h; rw [h]
  | .tup a, b, h => by
    cases b with
    | tup b => simp only [beqD] at h; rw [beqDs_eq h]
    | _ => simp [beqD] at h
  | .rls a, b, h => by
    cases b with
    | rls b => simp only [beqD] at h; rw [beqDs_eq h]
    | _ => simp [beqD] at h
  | .ref a, b, h => by
    cases b with
    | ref b => simp only [beqD] at h; rw [Nat.eq_of_beq_eq_true h]
    | _ => simp [beqD] at h
theorem beqDs_eq : ∀ {a b : List D}, beqDs a b = true → a = b
  | [], b, h => by cases b <;> first | rfl | (simp [beqDs] at h)
  | a :: as, b, h => by
    cases b with
    | nil => simp [beqDs] at h
    | cons b bs =>
      simp only [beqDs, Bool.and_eq_true] at h
      rw [beqD_eq h.1, beqDs_eq h.2]
end
noncomputable def beqS : Src → Src → Bool
  | .pos a, .pos b => a == b
  | .kw a, .kw b => a == b
  | .dfl a, .dfl b => beqD a b
  | _, _ => false
theorem beqS_eq {a b : Src} (h : beqS a b = true) : a = b := by
  cases a <;> cases b <;> first | (simp [beqS] at h; rw [h]) | (simp only [beqS] at h; rw [beqD_eq h]) | (simp [beqS] at h)
noncomputable def beqSs : List Src → List Src → Bool
  | [], [] => true
  | a :: as, b :: bs => beqS a b && beqSs as bs
  | _, _ => false
theorem beqSs_eq : ∀ {a b : List Src}, beqSs a b = true → a = b
  | [], [], _ => rfl
  | [], _ :: _, h => by simp [beqSs] at h
  | _ :: _, [], h => by simp [beqSs] at h
  | a :: as, b :: bs, h => by
    simp only [beqSs, Bool.and_eq_true] at h
    rw [beqS_eq h.1, beqSs_eq h.2]
/-- a call's form: its keywords, how many, how they are bound -/
noncomputable def shC (kn : Option (List Str)) (k : Nat) (o : List Str → Option (Nat × List Src)) (np : Nat) (g : List Src) : Bool := match kn with
  | some kn => decide (kn.length = k) && (match o kn with | some (np', g') => decide (np' = np) && beqSs g g' | none => false)
  | none => false
structure Tab where
  fn : Str → Option Nat
  cls : Str → Option Nat
  glb : Str → Option D
  blt : Str → Bool
  shape : Nat → Nat → List Str → Option (Nat × List Src)
  init : Nat → Option Nat
  own : Nat → Option Nat
  ownL : Nat → Option Nat
  ownB : Nat → Option Nat
  mth : Nat → Str → Option Nat
  attr : Nat → Str → Bool
  exc : Nat → Bool
  xcl : Nat → Bool
  xkit : Nat → String ⊕ Nat → Option Bool
  tch : Str → List Nat → Bool
  gdc : Str → Option (List (Str × Int))
  lamD : Str → Option Nat
  lamS : List (Str × NameKind) → Option Nat
  lamM : Nat → Option Nat
noncomputable def nmV (N : List Str) (sc : Scope) (x : Str) (i : Nat) : Bool := decide (N[i]? = some x) && (match sc.names.lookup x with | some .local => true | some .cell => true | some .free => true | _ => false) && !(x == ("__debug__" : Str)) && !(x == ("__classdict__" : Str))
noncomputable def glN (sc : Scope) (x : Str) : Bool := decide (sc.names.lookup x = some .globalImplicit) && !(x == ("__debug__" : Str))
noncomputable def nmL (N : List Str) (sc : Scope) (x : Str) (i : Nat) : Bool := decide (N[i]? = some x) && (match sc.names.lookup x with | some .local => true | some .cell => true | _ => false)
noncomputable def biN : BI → Str
  | .len => "len" | .int => "int" | .list => "list" | .tuple => "tuple" | .all => "all" | .maxL => "max" | .min2 => "min" | .repr => "repr" | .str => "str" | .intS => "int"
noncomputable def biA : BI → Nat → Bool
  | .min2, n => n == 2
  | _, n => n == 1
noncomputable def miN : MI → Str
  | .append => "append" | .popAt => "pop" | .join => "join"
noncomputable def miA : MI → Nat → Bool
  | _, n => n == 1
noncomputable def opN : OpB → Operator
  | .add => .Add | .sub => .Sub | .mul => .Mult | .fdiv => .FloorDiv | .mod => .Mod | .pow => .Pow | .mulX => .Mult
noncomputable def opCN : OpC → CmpOp
  | .eq => .Eq | .ne => .NotEq | .lt => .Lt | .le => .LtE | .gt => .Gt | .ge => .GtE | .is => .Is | .isNot => .IsNot
  | .inD => .In | .inF => .In | .notInF => .NotIn | .inS => .In | .notInS => .NotIn | .neU => .NotEq
noncomputable def notSet : Expr → Bool
  | .Set .. => false
  | _ => true
noncomputable def notComp : Expr → Bool
  | .ListComp .. => false
  | .SetComp .. => false
  | .DictComp .. => false
  | _ => true
noncomputable def tgC (N : List Str) (sc : Scope) (tg : Expr) : CT → Bool
  | .nm i => match tg with | .Name x _ => nmL N sc x i | _ => false
  | .tp is => match tg with
    | .Tuple xs _ _ => decide (xs.length = is.length) && (xs.zip is).all fun p => match p.1 with | .Name x _ => nmL N sc x p.2 | _ => false
    | _ => false
noncomputable def tgNs : Expr → List Str
  | .Name x _ => [x]
  | .Tuple xs _ _ => xs.filterMap fun e => match e with | .Name x _ => some x | _ => none
  | _ => []
noncomputable def chkBool (f : Expr → CE → Bool) (op : BoolOp) : List Expr → CE → Bool
  | [e], c => f e c
  | e :: r, c => match op, c with
    | .And, .and a b => f e a && chkBool f op r b
    | .Or, .or a b => f e a && chkBool f op r b
    | _, _ => false
  | [], _ => false
noncomputable def chkAs (f : Expr → CE → Bool) : List Expr → List CE → Bool
  | [], [] => true
  | e :: es, c :: cs => notStar e && f e c && chkAs f es cs
  | _, _ => false
noncomputable def chkKs (f : Expr → CE → Bool) : List Keyword → List CE → Bool
  | [], [] => true
  | ⟨_, e, _⟩ :: es, c :: cs => f e c && chkKs f es cs
  | _, _ => false
noncomputable def chkDs (f : Expr → CE → Bool) : List (Option Expr) → List Expr → List CE → List CE → Bool
  | [], [], [], [] => true
  | some k :: ks, v :: vs, c :: cs, d :: ds => f k c && f v d && chkDs f ks vs cs ds
  | _, _, _, _ => false
noncomputable def chkO (f : Expr → CE → Bool) : Option Expr → Option CE → Bool
  | none, none => true
  | some e, some c => f e c
  | _, _ => false
noncomputable def chkIfs (f : Expr → CE → Bool) : List Expr → List CE → Bool
  | [], [] => true
  | [e], [c] => f e c
  | _, _ => false
noncomputable def chkIt (T : Tab) (sc : Scope) (f : Expr → CE → Bool) (tg iter : Expr) : IK → List CE → Bool
  | .seq, [a] => f iter a && notSet iter
  | .txt, [a] => f iter a && notSet iter
  | .rg1, [a] => match iter with | .Call (.Name x _) [e] [] _ => decide (x = "range") && glN sc x && T.blt x && notStar e && f e a | _ => false
  | _, _ => false
noncomputable def isiC (T : Tab) (sc : Scope) (u : String ⊕ Nat) (c : Expr) : Bool := match c with
  | .Name x _ => glN sc x && notStar c && (match u with
    | .inl n => T.blt x && decide (bootBuiltins x = some (.type n)) && !decide (x = ("__name__" : Str))
    | .inr k => decide (T.cls x = some k))
  | _ => false
noncomputable def isiCs (T : Tab) (sc : Scope) : List (String ⊕ Nat) → List Expr → Bool
  | [], [] => true
  | u :: us, z :: zs => isiC T sc u z && isiCs T sc us zs
  | _, _ => false
noncomputable def noArgs : Arguments → Bool
  | ⟨[], [], none, [], [], none, []⟩ => true
  | _ => false
variable (T : Tab) (N : List Str)
mutual
noncomputable def chkE : Nat → Scope → Expr → CE → Bool
  | 0, _, _, _ => false
  | n + 1, sc, e, c => match c with
    | .var i => match e with | .Name x _ => nmV N sc x i | _ => false
    | .cst d => match e with
      | .Constant k _ _ => match k, d with
        | .none, .non => true
        | .bool a, .bl b => a == b
        | .int a, .int b => a == b
        | .str a, .str b => decide (a = b)
        | _, _ => false
      | _ => false
    | .glb x d => match e with | .Name y _ => decide (x = y) && glN sc y && (match T.glb y with | some d' => beqD d d' | none => false) | _ => false
    | .bin o a b => match e with | .BinOp x op y _ => decide (op = opN o) && chkE n sc x a && chkE n sc y b | _ => false
    | .neg a => match e with | .UnaryOp .USub x _ => chkE n sc x a | _ => false
    | .cmp o a b => match e with | .Compare x [op] [y] _ => decide (op = opCN o) && notSet y && chkE n sc x a && chkE n sc y b | _ => false
    | .chain o o' a b c => match e with | .Compare x [op, op'] [y, z] _ => decide (op = opCN o) && decide (op' = opCN o') && notSet z && chkE n sc x a && chkE n sc y b && chkE n sc z c | _ => false
    | .and _ _ => match e with | .BoolOp .And es _ => chkBool (chkE n sc) .And es c | _ => false
    | .or _ _ => match e with | .BoolOp .Or es _ => chkBool (chkE n sc) .Or es c | _ => false
    | .not a => match e with | .UnaryOp .Not x _ => chkE n sc x a | _ => false
    | .ite t a b => match e with | .IfExp z x y _ => chkT n sc z t && chkE n sc x a && chkE n sc y b | _ => false
    | .tup es => match e with | .Tuple xs _ _ => chkAs (chkE n sc) xs es | _ => false
    | .lst es => match e with | .List xs _ => chkAs (chkE n sc) xs es | _ => false
    | .dic ks vs => match e with | .Dict xs ys _ => chkDs (chkE n sc) xs ys ks vs && !xs.isEmpty && decide (xs.length ≤ 15) && decide (xs.length = ys.length) | _ => false
    | .idx a b => match e with | .Subscript x y _ => chkE n sc x a && chkE n sc y b && notSlice y | _ => false
    | .dic0 => match e with | .Dict [] [] _ => true | _ => false
    | .nev => notComp e
    | .slice a lo hi => match e with | .Subscript x (.Slice l h none _) _ => chkE n sc x a && chkO (chkE n sc) l lo && chkO (chkE n sc) h hi | _ => false
    | .call f np m k g es ks => match e with
      | .Call (.Name x _) xs kws _ => glN sc x && decide (T.fn x = some f) && shC (kwNames kws) k (T.shape f m) np g && chkAs (chkE n sc) xs es && chkKs (chkE n sc) kws ks
      | _ => false
    | .isi u a => match e with | .Call (.Name x _) [y, z] [] _ => decide (x = ("isinstance" : Str)) && glN sc x && T.blt x && chkE n sc y a && notStar y && isiC T sc u z | _ => false
    | .fmt a => match e with | .FormattedValue x c none _ => decide (c = -1) && chkE n sc x a | _ => false
    | .fst es => match e with | .JoinedStr (x :: y :: xs) _ => chkAs (chkE n sc) (x :: y :: xs) es | _ => false
    | .bi b es => match e with | .Call (.Name x _) xs [] _ => decide (x = biN b) && glN sc x && T.blt x && biA b xs.length && chkAs (chkE n sc) xs es | _ => false
    | .mt m o es => match e with | .Call (.Attribute x a ap) xs [] cp => decide (a = miN m) && miA m xs.length && chkE n sc x o && chkAs (chkE n sc) xs es && noSuper x && (ap.endLine == cp.line) | _ => false
    | .lam g c => match e with
      | .Call (.Name x _) [.Lambda params body scope _] [] _ => glN sc x && decide (T.lamD x = some g) && (T.lamS sc.names).isSome && LamX.lamSB sc scope && noArgs params && decide (T.lamS scope.names = none) && chkE n scope body c
      | _ => false
    | .lc c T' vs k it ifs => match e with
      | .ListComp elt [⟨tg, iter, ifs', asy⟩] scope _ => decide (asy = 0) && blkC N sc scope ((tgNs tg).zip T'.slots) && decide (vs = T'.slots) && decide ((tgNs tg).length = T'.slots.length) && tgC N scope tg T' && chkIt T sc (chkE n sc) tg iter k it && chkIfs (chkT n (relS scope sc)) ifs' ifs && chkE n (relS scope sc) elt c && notSet iter && decide (T.lamS (relS scope sc).names = none)
      | _ => false
noncomputable def chkT : Nat → Scope → Expr → CE → Bool
  | 0, _, _, _ => false
  | n + 1, sc, e, c => match c with
    | .and _ _ => match e with | .BoolOp .And es _ => chkBool (chkT n sc) .And es c | _ => false
    | .or _ _ => match e with | .BoolOp .Or es _ => chkBool (chkT n sc) .Or es c | _ => false
    | .not a => match e with | .UnaryOp .Not x _ => chkT n sc x a | _ => false
    | .cmp o a b => match e with | .Compare x [op] [y] _ => decide (op = opCN o) && notSet y && chkE n sc x a && chkE n sc y b | _ => false
    | .chain o o' a b c => match e with | .Compare x [op, op'] [y, z] _ => decide (op = opCN o) && decide (op' = opCN o') && notSet z && chkE n sc x a && chkE n sc y b && chkE n sc z c | _ => false
    | c => plainTest e && chkE n sc e c
end
noncomputable def chkSs (f : Stmt → CS → Bool) : List Stmt → List CS → Bool
  | [], [] => true
  | s :: r, c :: cs => f s c && chkSs f r cs
  | _, _ => false
noncomputable def chkSuite (N : List Str) (sc : Scope) : Stmt → CS → Bool
  | .Assign [.Name x _] e _, .asg (.nm i) (.var j) => (match e with | .Name y _ => nmV N sc y j | _ => false) && decide (N[i]? = some x) && decide (sc.names.lookup x = some .local)
  | .Assign [.Name x _] e _, .asg (.nm i) (.cst d) => (match e, d with
      | .Constant .none _ _, .non => true
      | .Constant (.bool a) _ _, .bl b => a == b
      | .Constant (.str a) _ _, .str b => decide (a = b)
      | _, _ => false) && decide (N[i]? = some x) && decide (sc.names.lookup x = some .local)
  | .Return (some e) _, .ret (.cst d) => (match e, d with
      | .Constant .none _ _, .non => true
      | .Constant (.bool a) _ _, .bl b => a == b
      | .Constant (.str a) _ _, .str b => decide (a = b)
      | _, _ => false)
  | .Pass _, .pass => true
  | .Continue _, .cont => true
  | _, _ => false
noncomputable def chkS : Nat → Scope → Stmt → CS → Bool
  | 0, _, _, _ => false
  | n + 1, sc, s, c => match c with
    | .pass => match s with | .Pass _ => true | _ => false
    | .cont => match s with | .Continue _ => true | _ => false
    | .expr c => match s with | .Expr e _ => chkE T N n sc e c && notComp e | _ => false
    | .ret c => match s with | .Return (some e) _ => chkE T N n sc e c | _ => false
    | .ifS t a b => match s with | .If e x y _ => chkT T N n sc e t && chkSs (chkS n sc) x a && chkSs (chkS n sc) y b | _ => false
    | .asg (.nm i) c => match s with
      | .Assign [.Name x xp] e p => nmL N sc x i && chkE T N n sc e c && (notComp e || (match e with
        | .ListComp _ [_] scope cp => (match sc.names.lookup x with | some .local => (xp.line == cp.line) && !(scope.names.any fun (n, k) => n == x && (k == .local || k == .cell)) | _ => true)
        | _ => false))
      | _ => false
    | .asg (.tp is) c => match s with
      | .Assign [.Tuple xs a b] e _ => tgC N sc (.Tuple xs a b) (.tp is) && chkE T N n sc e c && notComp e && (match e with | .Tuple vs _ _ => decide (4 ≤ xs.length) || xs.any (fun z => match z with | .Name y _ => !decide (sc.names.lookup y = some .local) | _ => false) || vs.all (foldedForSure 8) | _ => true)
      | _ => false
    | .par i j a b => match s with
      | .Assign [.Tuple [.Name x xp, .Name y yp] _ _] (.Tuple [e, e'] _ _) _ => decide (N[i]? = some x) && decide (N[j]? = some y) && decide (i ≠ j) && decide (sc.names.lookup x = some .local) && decide (sc.names.lookup y = some .local) && chkE T N n sc e a && chkE T N n sc e' b && notStar e && notStar e' && (xp.line == yp.line) && !(foldedForSure 8 e && foldedForSure 8 e') && !(constantsAlone 8 e && constantsAlone 8 e') && decide (x ≠ y)
      | _ => false
    | .par3 i j l a b c => match s with
      | .Assign [.Tuple [.Name x xp, .Name y yp, .Name z zp] _ _] (.Tuple [e, e', e2] _ _) _ => decide (N[i]? = some x) && decide (N[j]? = some y) && decide (N[l]? = some z) && decide (i ≠ j) && decide (i ≠ l) && decide (j ≠ l) && decide (sc.names.lookup x = some .local) && decide (sc.names.lookup y = some .local) && decide (sc.names.lookup z = some .local) && chkE T N n sc e a && chkE T N n sc e' b && chkE T N n sc e2 c && notStar e && notStar e' && notStar e2 && (xp.line == yp.line) && (xp.line == zp.line) && !(foldedForSure 8 e && (foldedForSure 8 e' && foldedForSure 8 e2)) && !(constantsAlone 8 e && (constantsAlone 8 e' && constantsAlone 8 e2)) && decide (x ≠ y) && decide (x ≠ z) && decide (y ≠ z)
      | _ => false
    | .setI o i c => match s with | .Assign [.Subscript x y _] e _ => chkE T N n sc x o && chkE T N n sc y i && chkE T N n sc e c && notSlice y | _ => false
    | .never => true
    | .augN i o c => match s with | .AugAssign (.Name x _) op e _ => nmL N sc x i && decide (op = opN o) && (decide (o = .add) || decide (o = .sub)) && chkE T N n sc e c | _ => false
    | .forS T' k it body => match s with | .For tg iter b [] _ => tgC N sc tg T' && chkIt T sc (chkE T N n sc) tg iter k it && notSet iter && chkSs (chkS n sc) b body | _ => false
    | .whileS t body => match s with | .While e b [] _ => chkT T N n sc e t && chkSs (chkS n sc) b body | _ => false
    | .raise c => match s with | .Raise (some (.Call (.Name x _) [.Constant (.str _) _ _] [] _)) none _ => glN sc x && decide (T.cls x = some c) && T.exc c | _ => false
    | .tryK _ _ _ _ _ _ _ => false
    | .tryL _ _ _ _ _ _ => false
section
variable (T : Tab) (N : List Str)
/-- isinstance(name j, u) -/
noncomputable def chkIsx (sc : Scope) (e : Expr) (ans : List (Nat × Bool)) (u : String ⊕ Nat) (j : Nat) : Bool := match e with
  | .Call (.Name x _) [.Name m p, z] [] _ => (ans.all fun q => decide (T.xkit q.1 u = some q.2)) && decide (x = ("isinstance" : Str)) && glN sc x && T.blt x && nmV N sc m j && isiC T sc u z
  | _ => false
noncomputable def chkIsxT (sc : Scope) (e : Expr) (ans : List (Nat × Bool)) (us : List (String ⊕ Nat)) (j : Nat) : Bool := match e with
  | .Call (.Name x _) [.Name m p, .Tuple zs _ _] [] _ => (ans.all fun q => decide (anyKit (fun t u => match t with | .inr c => T.xkit c u | _ => none) (.inr q.1) us = some q.2)) && decide (x = ("isinstance" : Str)) && glN sc x && T.blt x && nmV N sc m j && isiCs T sc us zs && !us.isEmpty && decide (zs.length ≤ 30)
  | _ => false
noncomputable def chkIT (fuel : Nat) (sc : Scope) : IE → Expr → Bool
  | .leaf c, e => chkT T N fuel sc e c
  | .isx ans u j, e => chkIsx T N sc e ans u j
  | .isxT ans us j, e => chkIsxT T N sc e ans us j
  | .and2 a b, e => (match e with | .BoolOp .And [x, y] _ => chkIT fuel sc a x && chkIT fuel sc b y | _ => false)
  | .and3 a b c, e => (match e with | .BoolOp .And [x, y, z] _ => chkIT fuel sc a x && (chkIT fuel sc b y && chkIT fuel sc c z) | _ => false)
  | .or2 a b, e => (match e with | .BoolOp .Or [x, y] _ => chkIT fuel sc a x && chkIT fuel sc b y | _ => false)
  | .not a, e => (match e with | .UnaryOp .Not x _ => chkIT fuel sc a x | _ => false)
  | .or3 a b c, e => (match e with | .BoolOp .Or [x, y, z] _ => chkIT fuel sc a x && (chkIT fuel sc b y && chkIT fuel sc c z) | _ => false)
  | .lst3 _ _ _, _ => false
  | .ite _ _ _, _ => false
noncomputable def chkI (fuel : Nat) (sc : Scope) : IE → Expr → Bool
  | .leaf c, e => chkE T N fuel sc e c
  | .isx ans u j, e => chkIsx T N sc e ans u j
  | .isxT ans us j, e => chkIsxT T N sc e ans us j
  | .and2 a b, e => (match e with | .BoolOp .And [x, y] _ => chkI fuel sc a x && chkI fuel sc b y | _ => false)
  | .and3 a b c, e => (match e with | .BoolOp .And [x, y, z] _ => chkI fuel sc a x && (chkI fuel sc b y && chkI fuel sc c z) | _ => false)
  | .or2 a b, e => (match e with | .BoolOp .Or [x, y] _ => chkI fuel sc a x && chkI fuel sc b y | _ => false)
  | .not a, e => (match e with | .UnaryOp .Not x _ => chkI fuel sc a x | _ => false)
  | .or3 a b c, e => (match e with | .BoolOp .Or [x, y, z] _ => chkI fuel sc a x && (chkI fuel sc b y && chkI fuel sc c z) | _ => false)
  | .lst3 a b c, e => (match e with | .List [x, y, z] _ => notStar x && notStar y && notStar z && (chkI fuel sc a x && (chkI fuel sc b y && chkI fuel sc c z)) | _ => false)
  | .ite t a b, e => (match e with | .IfExp z x y _ => chkIT T N fuel sc t z && (chkI fuel sc a x && chkI fuel sc b y) | _ => false)
noncomputable def chkIS (fuel : Nat) (sc : Scope) : List IS → List Stmt → Bool
  | .skip t :: r, .If e _ [] _ :: ss => chkT T N fuel sc e t && chkIS fuel sc r ss
  | .asg i c :: r, .Assign [.Name x _] e _ :: ss => nmL N sc x i && chkI T N fuel sc c e && notComp e && chkIS fuel sc r ss
  | .ifR t c :: r, .If e [.Return (some e2) _] [] _ :: ss => chkIT T N fuel sc t e && chkE T N fuel sc e2 c && chkIS fuel sc r ss
  | [.ret c], [.Return (some e) _] => chkI T N fuel sc c e
  | _, _ => false
/-- work() of the value in slot 0 -/
noncomputable def chkAct (sc : Scope) : Expr → Bool
  | .Call (.Name a _) [] [] _ => nmV N sc a 0
  | _ => false
noncomputable def chkLF (sc : Scope) : LF → List Stmt → Bool
  | .asg i, [.Assign [.Name x _] e _] => nmL N sc x i && chkAct N sc e
  | .lst i, [.Assign [.Name x _] (.List [e] _) _] => nmL N sc x i && chkAct N sc e
  | .drop, [.Expr e _] => chkAct N sc e
  | _, _ => false
/-- a try whose exception is held by what stands behind it -/
noncomputable def chkK (fuel : Nat) (sc : Scope) (s : Stmt) (r : List Stmt) : CS → Bool
  | .tryK cs i body suite rest t ie => (match s with
      | .Try b [.ExceptHandler (some (.Name x _)) (some y) (s0 :: su) _] [] [] _ => glN sc x && T.tch x cs && cs.all T.xcl && decide (N[i]? = some y) && decide (sc.names.lookup y = some .local) && chkSs (chkS T N fuel sc) b body && chkSs (chkSuite N sc) (s0 :: su) suite
      | _ => false) && chkSs (chkS T N fuel sc) r rest && (match r with
      | [.If e _ [] _, .Return (some e2) _] => chkT T N fuel sc e t && chkI T N fuel sc ie e2
      | _ => false)
  | .tryL cs i lf suite rest is => (match s with
      | .Try b [.ExceptHandler (some (.Name x _)) (some y) (s0 :: su) _] [] [] _ => glN sc x && T.tch x cs && cs.all T.xcl && decide (N[i]? = some y) && decide (sc.names.lookup y = some .local) && chkLF N sc lf b && chkSs (chkSuite N sc) (s0 :: su) suite
      | _ => false) && chkSs (chkS T N fuel sc) r rest && chkIS T N fuel sc is r
  | _ => false
noncomputable def isK : CS → Bool
  | .tryK _ _ _ _ _ _ _ => true
  | .tryL _ _ _ _ _ _ => true
  | _ => false
/-- a def's statements -/
noncomputable def chkTop (fuel : Nat) (sc : Scope) : List Stmt → List CS → Bool
  | [], [] => true
  | s :: r, c :: cs => if isK c = true then cs.isEmpty && chkK T N fuel sc s r c else chkS T N fuel sc s c && chkTop fuel sc r cs
  | _, _ => false
end
end L3
namespace L3
open PySem L2
/-- a def (or method) at a, numbered f -/
noncomputable def FnAt (P : Program) (w : World) (K : PySem.W.Frag) (mg : Str → Option Value) (base : Heap) (cl : ClsT) (T : Tab) (sem : SemF) (k f : Nat) (a : Addr) : Prop :=
  ∃ fd ps np, FnOkG P w K mg base (L2.CX P w) k a fd ps (spC K cl np sem) ∧ ∀ m ks np' g, T.shape f m ks = some (np', g) → np' = np ∧ BindsC K fd ps m ks g
structure FactsB (T : Tab) (P : Program) (w : World) (K : PySem.W.Frag) (mg : Str → Option Value) (base : Heap) (cl : ClsT) (G : G3) (n : Nat) : Prop where
  lv : 10 ≤ n
  clP : cl.P = P
  clw : cl.w = w
  fn : ∀ x f, T.fn x = some f → ∃ a, mg x = some (.ref a) ∧ PySem.W.keepIn K (.ref a) = true ∧ FnAt P w K mg base cl T (G.call f) n f a
  cls : ∀ x c, T.cls x = some c → ∃ Ca, cl c = some Ca ∧ mg x = some (.ref Ca)
  init : ∀ c f, T.init c = some f → ∃ Ca a, cl c = some Ca ∧ Mk K Ca a ∧ ∃ fd ps np, ((∀ ds C Q E, ¬ G.make f ds C Q E) ∨ ∃ k, FnOkG P w K mg base (L2.CX P w) k a fd ps (spC K cl np (G.make f)) ∧ k + 1 ≤ n) ∧ ∀ m ks np' g, T.shape f m ks = some (np', g) → np' = np ∧ BindsC K fd ps m ks g
  own : ∀ c f, T.own c = some f → ∃ Ca a, cl c = some Ca ∧ OwnEX K Ca a ∧ ∃ fd ps np k, FnOkG P w K mg base (L2.CX P w) k a fd ps (spC K cl np (G.make f)) ∧ k + 1 ≤ n ∧ ∀ m ks np' g, T.shape f m ks = some (np', g) → np' = np ∧ BindsC K fd ps m ks g
  ownL : ∀ c f, T.ownL c = some f → ∃ Ca a, cl c = some Ca ∧ OwnL K Ca a ∧ ∃ fd ps np k, FnOkG P w K mg base (L2.CX P w) k a fd ps (spC K cl np (G.make f)) ∧ k + 1 ≤ n ∧ ∀ m ks np' g, T.shape f m ks = some (np', g) → np' = np ∧ BindsC K fd ps m ks g
  ownB : ∀ c f, T.ownB c = some f → ∃ Ca a, cl c = some Ca ∧ OwnB K Ca a ∧ FnAt P w K mg base cl T (G.call f) n f a
  xcl : ∀ c Ca, T.xcl c = true → cl c = some Ca → ExcC K Ca
  xkit : ∀ c u b Ca, T.xkit c u = some b → cl c = some Ca → ∃ vu, tyVal cl u = some vu ∧ PySem.W.kitOne K (.ref Ca) vu = some b
  mth : ∀ c m f, T.mth c m = some f → ∃ Ca a, cl c = some Ca ∧ Cls K Ca ∧ Meth K Ca m a ∧ FnAt P w K mg base cl T (G.call f) n f a
  glb : ∀ x d, T.glb x = some d → ∃ u v, mg x = some u ∧ RelV v u ∧ ∀ H, Rep K H d v
  blt : ∀ x, T.blt x = true → mg x = none
  attr : ∀ c f Ca, T.attr c f = true → cl c = some Ca → Cls K Ca ∧ NoAttr K Ca f
  kit : KitOk K cl G.kit
  kitc : ∀ c u b Ca, G.kit (.inr c) u = some b → cl c = some Ca → ClsOk K Ca
  exc : ∀ c Ca, T.exc c = true → cl c = some Ca → PySem.W.excIn K Ca [.type "ValueError", .type "Exception", .type "BaseException", .type "object"] "ValueError.__new__" = true ∧ PySem.W.keepIn K (.ref Ca) = true ∧ PySem.W.subIn K (.ref Ca) (.type "BaseException") = some true ∧ PySem.W.typeIn K (.ref Ca) = some (.type "type")
  tch : ∀ x cs, T.tch x cs = true → ∃ c, (mg x = some c ∨ (mg x = none ∧ bootBuiltins x = some c ∧ x ≠ "__name__")) ∧ SubOk K cl c fun i => decide (i ∈ cs)
  gdc : ∀ x tab, T.gdc x = some tab → ∃ p, mg x = some (.ref p) ∧ WDct K w p tab ∧ ∃ es m, K.lookup p = some ⟨.type "dict", none, .dict es m, #[]⟩
  lamS : ∀ l j, T.lamS l = some j → ∃ r, cl.tb[j]? = some r ∧ r.names = l
  lamI : ∀ (j : Nat) (r : LamR), cl.tb[j]? = some r → T.lamS r.names ≠ none
  lamU : ∀ r ∈ cl.tb, ∀ p ∈ cl.tb, p.P = r.P → p.q = r.q
/-- the same, and the defs that call what they are given -/
structure Facts (T : Tab) (P : Program) (w : World) (K : PySem.W.Frag) (mg : Str → Option Value) (base : Heap) (cl : ClsT) (G : G3) (n : Nat) : Prop extends FactsB T P w K mg base cl G n where
  lam : (∀ g act ds C Q E, ¬ G.lam g act ds C Q E) ∨ ∃ m, n = m + 2 ∧ FactsB T P w K mg base cl G.dn m ∧ ∀ x g, T.lamD x = some g → ∃ a, mg x = some (.ref a) ∧ PySem.W.keepIn K (.ref a) = true ∧ LamAt P w K mg base cl m a (G.lam g)
theorem FactsB.low {T : Tab} {P : Program} {w : World} {K : PySem.W.Frag} {mg : Str → Option Value} {base : Heap} {cl : ClsT} {G : G3} {n : Nat} (F : FactsB T P w K mg base cl G.dn n) : Facts T P w K mg base cl G.dn n := ⟨F, .inl fun _ _ _ _ _ _ z => z⟩
section
variable {N : List Str} {sc : Scope} {x : Str} {i : Nat}
theorem nmV_ok (h : nmV N sc x i = true) : N[i]? = some x ∧ Vis sc x ∧ (x == ("__debug__" : Str)) = false ∧ (x == ("__classdict__" : Str)) = false := by
  unfold nmV at h
  simp only [Bool.and_eq_true, decide_eq_true_eq, Bool.not_eq_true'] at h
  obtain ⟨⟨⟨h1, h2⟩, h3⟩, h4⟩ := h
  refine ⟨h1, ?_, h3, h4⟩
  unfold Vis
  split at h2 <;> first | (cases h2; done) | simp_all
theorem nmL_ok (h : nmL N sc x i = true) : N[i]? = some x ∧ Loc sc x := by
  unfold nmL at h
  simp only [Bool.and_eq_true, decide_eq_true_eq] at h
  obtain ⟨h1, h2⟩ := h
  refine ⟨h1, ?_⟩
  unfold L2.Loc
  split at h2 <;> first | (cases h2; done) | simp_all
theorem glN_ok {X : Cx} (e : X.env.scope = sc) (h : glN sc x = true) : Gl X x ∧ (x == ("__debug__" : Str)) = false := by
  unfold glN at h
  simp only [Bool.and_eq_true, decide_eq_true_eq, Bool.not_eq_true'] at h
  refine ⟨?_, h.2⟩
  show X.env.scope.names.lookup x = _
  rw [e]; exact h.1
theorem notSet_fold {e : Expr} {env : Env} (h : notSet e = true) : ∀ x, foldedSetIterable e env x = pure x := fun x => by
  cases e <;> first | rfl | cases h
theorem notSet_mark {e : Expr} {op : CmpOp} (h : notSet e = true) : behindInMarks op e = false := by
  cases e <;> first | rfl | cases h
theorem plain_of {e : Expr} {env : Env} (h : plainTest e = true) : ∀ whole, isTrue e env whole = (do let v ← whole; standAt e.pos; holding [v] (truthy v)) := fun whole => by
  cases e with
  | UnaryOp op a p => cases op <;> first | rfl | cases h
  | _ => first | rfl | cases h
theorem swap_none {e : Expr} {t : Option Expr} {l : Nat} {env : Env} (h : notComp e = true) : swapsWith e t l env = pure false := by
  cases e <;> first | rfl | cases h
end
section
variable {T : Tab} {P : Program} {w : World} {K : PySem.W.Frag} {mg : Str → Option Value} {base : Heap} {cl : ClsT} {G : G3} {n : Nat} {N : List Str}
theorem takes_bot {X : Cx} {H0 : Hp} {C0 : CH} : Takes X (WC K cl H0 C0 fun _ _ _ => False) := fun u s' ⟨_, _, _, _, _, _, _, _, _, _, _, _, _, _, _, _, _, _, _, z, _⟩ => z.elim
/-- the statement of what the checker is worth -/
noncomputable def SndE (P : Program) (w : World) (K : PySem.W.Frag) (mg : Str → Option Value) (base : Heap) (cl : ClsT) (G : G3) (n : Nat) (N : List Str) (sc : Scope) (e : Expr) (c : CE) : Prop :=
  ∀ top X H0 C0 ex, XOk P w K mg base cl.tb n N sc top X → Takes X (WC K cl H0 C0 ex) → CPE X cl H0 C0 e (rdE G ex c)
noncomputable def SndT (P : Program) (w : World) (K : PySem.W.Frag) (mg : Str → Option Value) (base : Heap) (cl : ClsT) (G : G3) (n : Nat) (N : List Str) (sc : Scope) (e : Expr) (c : CE) : Prop :=
  ∀ top X H0 C0 ex, XOk P w K mg base cl.tb n N sc top X → Takes X (WC K cl H0 C0 ex) → CPT X cl H0 C0 e (rdT G ex c)
variable {X : Cx} {top : Bool} {H0 : Hp} {C0 : CH} {ex : Kxs} {sc : Scope} {f : Expr → CE → Bool}
theorem snd_args (ok : XOk P w K mg base cl.tb n N sc top X) (tk : Takes X (WC K cl H0 C0 ex)) (hf : ∀ e c, f e c = true → SndE P w K mg base cl G n N sc e c) : ∀ {es : List Expr} {cs : List CE}, chkAs f es cs = true → CPA X cl H0 C0 es (rdA G ex cs) ∧ es.all notStar = true ∧ es.length = cs.length ∧ (es = [] → rdA G ex cs = cNil)
  | [], [], _ => ⟨cpa_nil, rfl, rfl, fun _ => rfl⟩
  | [], _ :: _, h => by simp [chkAs] at h
  | _ :: _, [], h => by simp [chkAs] at h
  | e :: es, c :: cs, h => by
    simp only [chkAs, Bool.and_eq_true] at h
    obtain ⟨⟨h1, h2⟩, h3⟩ := h
    obtain ⟨a, b, l, _⟩ := snd_args ok tk hf h3
    exact ⟨cpa_cons (hf e c h2 _ X H0 C0 ex ok tk) a (star_of h1), by rw [List.all_cons, h1, b]; rfl, congrArg (· + 1) l, fun z => nomatch z⟩
theorem snd_kws (ok : XOk P w K mg base cl.tb n N sc top X) (tk : Takes X (WC K cl H0 C0 ex)) (hf : ∀ e c, f e c = true → SndE P w K mg base cl G n N sc e c) : ∀ {es : List Keyword} {cs : List CE}, chkKs f es cs = true → CPK X cl H0 C0 es (rdA G ex cs)
  | [], [], _ => cpk_nil
  | [], _ :: _, h => by simp [chkKs] at h
  | ⟨_, _, _⟩ :: _, [], h => by simp [chkKs] at h
  | ⟨nm, e, p⟩ :: es, c :: cs, h => by
    simp only [chkKs, Bool.and_eq_true] at h
    exact cpk_cons (hf e c h.1 _ X H0 C0 ex ok tk) (snd_kws ok tk hf h.2)
theorem snd_o (ok : XOk P w K mg base cl.tb n N sc top X) (tk : Takes X (WC K cl H0 C0 ex)) (hf : ∀ e c, f e c = true → SndE P w K mg base cl G n N sc e c) : ∀ {e : Option Expr} {c : Option CE}, chkO f e c = true → CPO X cl H0 C0 e (rdO G ex c)
  | none, none, _ => cpo_none
  | some e, some c, h => cpo_some (hf e c h _ X H0 C0 ex ok tk)
  | none, some _, h => by simp [chkO] at h
  | some _, none, h => by simp [chkO] at h
theorem snd_ifs (ok : XOk P w K mg base cl.tb n N sc top X) (tk : Takes X (WC K cl H0 C0 ex)) (hf : ∀ e c, f e c = true → SndT P w K mg base cl G n N sc e c) {es : List Expr} {cs : List CE} (h : chkIfs f es cs = true) : CPTs X cl H0 C0 es (rdIfs G ex cs) := by
  match es, cs, h with
  | [], [], _ => exact cpts_nil
  | [e], [c], h => exact cpts_one (hf e c h _ X H0 C0 ex ok tk)
  | [], _ :: _, h => simp [chkIfs] at h
  | [_], [], h => simp [chkIfs] at h
  | [_], _ :: _ :: _, h => simp [chkIfs] at h
  | _ :: _ :: _, _, h => simp [chkIfs] at h
theorem snd_boolE_and (ok : XOk P w K mg base cl.tb n N sc top X) (tk : Takes X (WC K cl H0 C0 ex)) (hf : ∀ e c, f e c = true → SndE P w K mg base cl G n N sc e c) {pos : Pos} : ∀ {es : List Expr} {c : CE}, chkBool f .And es c = true → CPE X cl H0 C0 (.BoolOp .And es pos) (rdE G ex c)
  | [], c, h => by simp [chkBool] at h
  | [e], c, h => cpe_one (hf e c (by simpa [chkBool] using h) _ X H0 C0 ex ok tk)
  | e :: e' :: r, c, h => by
    cases c with
    | and a b =>
      simp only [chkBool, Bool.and_eq_true] at h
      exact cpe_and (hf e a h.1 _ X H0 C0 ex ok tk) (snd_boolE_and ok tk hf h.2)
    | _ => simp [chkBool] at h
theorem snd_boolE_or (ok : XOk P w K mg base cl.tb n N sc top X) (tk : Takes X (WC K cl H0 C0 ex)) (hf : ∀ e c, f e c = true → SndE P w K mg base cl G n N sc e c) {pos : Pos} : ∀ {es : List Expr} {c : CE}, chkBool f .Or es c = true → CPE X cl H0 C0 (.BoolOp .Or es pos) (rdE G ex c)
  | [], c, h => by simp [chkBool] at h
  | [e], c, h => cpe_one (hf e c (by simpa [chkBool] using h) _ X H0 C0 ex ok tk)
  | e :: e' :: r, c, h => by
    cases c with
    | or a b =>
      simp only [chkBool, Bool.and_eq_true] at h
      exact cpe_or (hf e a h.1 _ X H0 C0 ex ok tk) (snd_boolE_or ok tk hf h.2)
    | _ => simp [chkBool] at h
theorem snd_boolT_and (ok : XOk P w K mg base cl.tb n N sc top X) (tk : Takes X (WC K cl H0 C0 ex)) (hf : ∀ e c, f e c = true → SndT P w K mg base cl G n N sc e c) {pos : Pos} : ∀ {es : List Expr} {c : CE}, chkBool f .And es c = true → CPW X cl H0 C0 (.BoolOp .And es pos) (rdT G ex c)
  | [], c, h => by simp [chkBool] at h
  | [e], c, h => cpw_and1 (hf e c (by simpa [chkBool] using h) _ X H0 C0 ex ok tk)
  | e :: e' :: r, c, h => by
    cases c with
    | and a b =>
      simp only [chkBool, Bool.and_eq_true] at h
      exact cpw_and (hf e a h.1 _ X H0 C0 ex ok tk) (snd_boolT_and ok tk hf h.2)
    | _ => simp [chkBool] at h
theorem snd_boolT_or (ok : XOk P w K mg base cl.tb n N sc top X) (tk : Takes X (WC K cl H0 C0 ex)) (hf : ∀ e c, f e c = true → SndT P w K mg base cl G n N sc e c) {pos : Pos} : ∀ {es : List Expr} {c : CE}, chkBool f .Or es c = true → CPW X cl H0 C0 (.BoolOp .Or es pos) (rdT G ex c)
  | [], c, h => by simp [chkBool] at h
  | [e], c, h => cpw_or1 (hf e c (by simpa [chkBool] using h) _ X H0 C0 ex ok tk)
  | e :: e' :: r, c, h => by
    cases c with
    | or a b =>
      simp only [chkBool, Bool.and_eq_true] at h
      exact cpw_or (hf e a h.1 _ X H0 C0 ex ok tk) (snd_boolT_or ok tk hf h.2)
    | _ => simp [chkBool] at h
theorem snd_it (F : Facts T P w K mg base cl G n) (ok : XOk P w K mg base cl.tb n N sc top X) (tk : Takes X (WC K cl H0 C0 ex)) (hf : ∀ e c, f e c = true → SndE P w K mg base cl G n N sc e c) {tg iter : Expr} {k : IK} {cs : List CE} (h : chkIt T sc f tg iter k cs = true) : CPI X cl H0 C0 tg iter (semIK k (rdLs G ex cs)) ∧ notSet iter = true := by
  cases k with
  | seq =>
    match cs, h with
    | [a], h =>
      simp only [chkIt, Bool.and_eq_true] at h
      exact ⟨cpi_seq (hf _ _ h.1 _ X H0 C0 ex ok tk), h.2⟩
    | [], h => simp [chkIt] at h
    | _ :: _ :: _, h => simp [chkIt] at h
  | txt =>
    match cs, h with
    | [a], h =>
      simp only [chkIt, Bool.and_eq_true] at h
      exact ⟨cpi_txt (hf _ _ h.1 _ X H0 C0 ex ok tk), h.2⟩
    | [], h => simp [chkIt] at h
    | _ :: _ :: _, h => simp [chkIt] at h
  | rg1 =>
    match cs, h with
    | [a], h =>
      simp only [chkIt] at h
      split at h
      · simp only [Bool.and_eq_true, decide_eq_true_eq] at h
        obtain ⟨⟨⟨⟨h1, h2⟩, h3⟩, h4⟩, h5⟩ := h
        subst h1
        obtain ⟨g1, g2⟩ := glN_ok ok.sc_ h2
        have hm := F.blt _ h3
        rw [← ok.mg_] at hm
        exact ⟨cpi_rg1 g1 hm (cpa_cons (hf _ _ h5 _ X H0 C0 ex ok tk) cpa_nil (star_of h4)) (star_of h4), rfl⟩
      · cases h
    | [], h => simp [chkIt] at h
    | _ :: _ :: _, h => simp [chkIt] at h
/-- the parts of an f-string -/
theorem snd_js (ok : XOk P w K mg base cl.tb n N sc top X) (tk : Takes X (WC K cl H0 C0 ex)) (hf : ∀ e c, f e c = true → SndE P w K mg base cl G n N sc e c) : ∀ {es : List Expr} {cs : List CE}, chkAs f es cs = true → PJ X es ((rdLs G ex cs).map (tE X.K cl H0 C0))
  | [], [], _ => .nil
  | [], _ :: _, h => by simp [chkAs] at h
  | _ :: _, [], h => by simp [chkAs] at h
  | e :: es, c :: cs, h => by
    simp only [chkAs, Bool.and_eq_true] at h
    exact .cons (hf e c h.1.2 _ X H0 C0 ex ok tk) (snd_js ok tk hf h.2)
/-- a class by its name -/
theorem isiC_ok (F : Facts T P w K mg base cl G n) (ok : XOk P w K mg base cl.tb n N sc top X) {u : String ⊕ Nat} {z : Expr} (h : isiC T sc u z = true) : ∃ v w, PE X z (tC v) ∧ notStar z = true ∧ tyVal cl u = some w ∧ ClsV v w := by
  unfold isiC at h
  split at h
  · simp only [Bool.and_eq_true] at h
    obtain ⟨⟨k1, k2⟩, k3⟩ := h
    obtain ⟨g3, g4⟩ := glN_ok ok.sc_ k1
    split at k3
    · rename_i nm
      simp only [Bool.and_eq_true, decide_eq_true_eq, Bool.not_eq_true', decide_eq_false_iff_not] at k3
      obtain ⟨⟨l1, l2⟩, l3⟩ := k3
      have hm := F.blt _ l1
      rw [← ok.mg_] at hm
      exact ⟨.ty nm, .type nm, pe_bltn g3 hm l2 rfl l3 g4, k2, rfl, .ty nm⟩
    · rename_i kc
      have l1 := of_decide_eq_true k3
      obtain ⟨Ca, c1, c2⟩ := F.cls _ _ l1
      rw [← ok.mg_] at c2
      refine ⟨.ref Ca, .ref Ca, pe_glob g3 c2 rfl g4, k2, ?_, .own Ca⟩
      show (cl kc).map Value.ref = _
      rw [c1]; rfl
  · cases h
theorem isiCs_ok (F : Facts T P w K mg base cl G n) (ok : XOk P w K mg base cl.tb n N sc top X) : ∀ {us : List (String ⊕ Nat)} {zs : List Expr}, isiCs T sc us zs = true → ∃ vs ws, ClsL X cl zs us vs ws
  | [], [], _ => ⟨[], [], .nil⟩
  | [], _ :: _, h => by simp [isiCs] at h
  | _ :: _, [], h => by simp [isiCs] at h
  | u :: us, z :: zs, h => by
    simp only [isiCs, Bool.and_eq_true] at h
    obtain ⟨v, w, a, b, c, d⟩ := isiC_ok F ok h.1
    obtain ⟨vs, ws, L⟩ := isiCs_ok F ok h.2
    exact ⟨_, _, .cons a b c d L⟩
/-- a chain of two comparisons -/
theorem tChain_of {r r' : R2} {o o' : O2} {ca cb cc : CTE} (l : Lk2 X.K cl r o) (l' : Lk2 X.K cl r' o') : ∀ σ H Q, tE X.K cl H0 C0 (cChain o o' ca cb cc) σ H Q → tChain r r' (tE X.K cl H0 C0 ca) (tE X.K cl H0 C0 cb) (tE X.K cl H0 C0 cc) σ H Q :=
  fun σ H Q ⟨σc, C, Qc, S, h, hq⟩ => ⟨σc, C, _, S, h, fun d C1 v H1 h1 rv R1 k1 => ⟨σc, C1, _, S.step k1 R1, h1, fun e C2 u H2 h2 ru R2 k2 =>
    l H2 C2 d e v u _ _ (rv.keep R1 k2) ru R2 h2 fun z C3 w3 H3 ⟨k, ez, h3⟩ rz R3 k3 => by
      subst ez; cases rz
      refine ⟨k, rfl, ?_⟩
      have kk := (k1.trans k2).trans k3
      cases k with
      | true => exact iteT ⟨σc, C3, _, S.step kk R3, h3, fun f C4 w4 H4 h4 rf R4 k4 => l' H4 C4 e f u w4 Q Qc ((ru.keep R2 k3).keep R3 k4) rf R4 h4 (hq.from_ (kk.trans k4))⟩
      | false => exact iteF (hq _ _ _ _ h3 (.bl _) R3 kk)⟩⟩
theorem cpe_chain {op op' : CmpOp} {r r' : R2} {o o' : O2} {a b c : Expr} {ca cb cc : CTE} {pos : Pos} (ho : OpR X (compareOp op) r) (ho' : OpR X (compareOp op') r') (l : Lk2 X.K cl r o) (l' : Lk2 X.K cl r' o') (ha : CPE X cl H0 C0 a ca) (hb : CPE X cl H0 C0 b cb) (hc : CPE X cl H0 C0 c cc)
    (hm : lastMarks [op, op'] [b, c] = false) : CPE X cl H0 C0 (.Compare a [op, op'] [b, c] pos) (cChain o o' ca cb cc) := (pe_chain ho ho' ha hb hc hm).imp (tChain_of l l')
theorem cpt_chain {op op' : CmpOp} {r r' : R2} {o o' : O2} {a b c : Expr} {ca cb cc : CTE} {pos : Pos} (ho : OpR X (compareOp op) r) (ho' : OpR X (compareOp op') r') (l : Lk2 X.K cl r o) (l' : Lk2 X.K cl r' o') (ha : CPE X cl H0 C0 a ca) (hb : CPE X cl H0 C0 b cb) (hc : CPE X cl H0 C0 c cc)
    (hm : lastMarks [op, op'] [b, c] = false) : CPT X cl H0 C0 (.Compare a [op, op'] [b, c] pos) (cTst (cChain o o' ca cb cc)) :=
  (pt_chain ho ho' ha hb hc hm).imp fun σ H Q ⟨σc, C, Qc, S, h, hq⟩ => tChain_of l l' σ H _ ⟨σc, C, _, S, h, fun z C1 v H1 ⟨b, h1, h2⟩ rz R1 k1 => by
    subst h1; cases rz
    exact ⟨b, rfl, hq _ _ _ h2 R1 k1⟩⟩
theorem lk_I2 {P : Int → Int → Prop} {g : Int → Int → V} {g' : Int → Int → D} (hg : ∀ H i j, Rep K H (g' i j) (g i j)) : Lk2 K cl (rI P g) (oI2 P g') := fun H C d e v u Q Qc rd re R h hq => by
  cases d with
  | int i =>
    cases e with
    | int j => cases rd; cases re; exact ⟨i, j, rfl, rfl, h.1, hq.now h.2 (hg H i j) R⟩
    | _ => exact h.elim
  | _ => exact h.elim
theorem lk_I20 {g : Int → Int → V} {g' : Int → Int → D} (hg : ∀ H i j, Rep K H (g' i j) (g i j)) : Lk2 K cl (rI0 g) (oI2 (fun _ _ => True) g') := fun H C d e v u Q Qc rd re R h hq => by
  cases d with
  | int i =>
    cases e with
    | int j => cases rd; cases re; exact ⟨i, j, rfl, rfl, hq.now h.2 (hg H i j) R⟩
    | _ => exact h.elim
  | _ => exact h.elim
theorem lk_addA : Lk2 K cl (fun x y H Q => rI0 (fun i j => .int (i + j)) x y H Q ∨ ((∃ i j, x = .str i ∧ y = .str j ∧ i.length + j.length ≤ sizeLine ∧ Q (.str (i ++ j)) H) ∨ (rCatA K x y H Q ∨ rCat x y H Q))) oAddA := fun H C d e v u Q Qc rd re R h hq => by
  cases d with
  | int i =>
    cases e with
    | int j => cases rd; cases re; exact .inl ⟨i, j, rfl, rfl, hq.now h (.int _) R⟩
    | _ => exact h.elim
  | str i =>
    cases e with
    | str j => exact .inr (.inl (lk_addS H C _ _ v u Q Qc rd re R ⟨i, j, rfl, rfl, h.1, h.2⟩ hq))
    | _ => exact h.elim
  | tup xs =>
    cases e with
    | tup ys => exact .inr (.inr (.inl (lk_catT H C _ _ v u Q Qc rd re R ⟨xs, ys, rfl, rfl, h.1, h.2⟩ hq)))
    | _ => exact h.elim
  | ref a =>
    cases e with
    | ref b =>
      obtain ⟨xs, ys, h1, h2, h3, h4⟩ := h
      exact .inr (.inr (.inr (lk_cat H C _ _ v u Q Qc rd re R ⟨a, b, xs, ys, rfl, rfl, h1, h2, h3, h4⟩ hq)))
    | _ => exact h.elim
  | _ => exact h.elim
theorem lk_mulA {K : PySem.W.Frag} : Lk2 K cl (fun x y H Q => rI CMul (fun i j => .int (i * j)) x y H Q ∨ (rRepU K x y H Q ∨ (rRep x y H Q ∨ rRepS x y H Q))) oMulA := fun H C d e v u Q Qc rd re R h hq => by
  cases d with
  | str z =>
    cases e with
    | int k => cases rd; cases re; exact .inr (.inr (.inr ⟨z, k, rfl, rfl, h.1, h.2.1, h.2.2.1, hq.now h.2.2.2 (.str _) R⟩))
    | _ => exact h.elim
  | int i =>
    cases e with
    | int j => cases rd; cases re; exact .inl ⟨i, j, rfl, rfl, h.1, hq.now h.2 (.int _) R⟩
    | _ => exact h.elim
  | tup xs =>
    cases e with
    | int k => exact .inr (.inl (lk_mulT H C _ _ v u Q Qc rd re R ⟨xs, k, rfl, rfl, h.1, h.2.1, h.2.2.1, h.2.2.2.1, h.2.2.2.2⟩ hq))
    | _ => exact h.elim
  | ref a =>
    cases e with
    | int k =>
      obtain ⟨xs, h1, h2, h3, h4, h5⟩ := h
      cases rd; cases re
      obtain ⟨vs, g1, r1⟩ := R a _ h1
      exact .inr (.inr (.inl ⟨a, k, vs, rfl, rfl, g1, h2, h3, by rw [← r1.length]; exact h4, fun l hl => hq.lst (r1.rep _) R hl (h5 l (free_of R hl))⟩))
    | _ => exact h.elim
  | _ => exact h.elim
theorem semB_ok (o : OpB) : ∃ r, OpR X (binaryOp (opN o)) r ∧ Lk2 X.K cl r (semB o) := by
  cases o with
  | add => exact ⟨_, op_add.or (op_add_str.or (op_catA.or op_cat)), lk_addA⟩
  | sub => exact ⟨_, op_sub, lk_I20 fun _ _ _ => .int _⟩
  | mul => exact ⟨_, op_mul.or (op_repU.or (op_rep.or op_repS)), lk_mulA⟩
  | fdiv => exact ⟨_, op_fdivN, lk_I2 fun _ _ _ => .int _⟩
  | mulX => exact ⟨_, op_mulX, lk_I2 fun _ _ _ => .int _⟩
  | mod => exact ⟨_, op_modN, lk_I2 fun _ _ _ => .int _⟩
  | pow => exact ⟨_, op_pow, lk_I2 fun _ _ _ => .int _⟩
theorem semC_ok (hP : cl.P = X.prog) (hw : cl.w = X.w) (h10 : 10 ≤ n) (hr : Room n X.A) (o : OpC) : ∃ r, OpR X (compareOp (opCN o)) r ∧ Lk2 X.K cl r (semC o) := by
  have hu : X.A.units + 65 < cLine := by have := hr.un; omega
  cases o with
  | eq => exact ⟨_, op_eqN (by have := hr.un; omega), lk_eqN id⟩
  | ne => exact ⟨_, op_neN (by have := hr.un; omega), lk_eqN not⟩
  | lt => exact ⟨_, op_lt, lk_I20 fun _ _ _ => .bl _⟩
  | le => exact ⟨_, op_le, lk_I20 fun _ _ _ => .bl _⟩
  | gt => exact ⟨_, op_gt, lk_I20 fun _ _ _ => .bl _⟩
  | ge => exact ⟨_, op_ge, lk_I20 fun _ _ _ => .bl _⟩
  | is => exact ⟨_, op_isN, lk_is⟩
  | isNot => exact ⟨_, op_notN, lk_isnot⟩
  | inD => exact ⟨_, op_inD hu, lk_inD⟩
  | neU => exact ⟨_, op_neU (by omega), lk_neU⟩
  | inF => exact ⟨_, op_in_seq, lk_inF⟩
  | notInF => exact ⟨_, op_notIn_seq, lk_notInF⟩
  | inS => exact ⟨_, op_in_sign, lk_inS⟩
  | notInS => exact ⟨_, op_notIn_sign, lk_notInS⟩
theorem lk_neg : Lk1 K cl (rU fun i => .int (-i)) oNeg := fun H C d v Q Qc rd R h hq => by
  cases d with
  | int i => cases rd; exact ⟨i, rfl, hq.now h (.int _) R⟩
  | _ => exact h.elim
theorem semBI_ok (hc : X.calm = true) (hgd : X.A.guards = some []) (h10 : 10 ≤ n) (hr : Room n X.A) (b : BI) : ∃ r, ((CallR X (.builtin (String.ofList ((biN b).cps.toList.map Char.ofNat))) r ∧ bootBuiltins (biN b) = some (.builtin (String.ofList ((biN b).cps.toList.map Char.ofNat)))) ∨ (CallR X (.type (String.ofList ((biN b).cps.toList.map Char.ofNat))) r ∧ bootBuiltins (biN b) = some (.type (String.ofList ((biN b).cps.toList.map Char.ofNat))))) ∧ LkL X.K cl r (semBI b) := by
  cases b with
  | len => exact ⟨_, .inl ⟨call_len_seq.or call_len_str, by decide +kernel⟩, lk_len⟩
  | int => exact ⟨_, .inr ⟨call_int1, by decide +kernel⟩, lk_int⟩
  | list => exact ⟨_, .inr ⟨call_list_of, by decide +kernel⟩, lk_list⟩
  | tuple => exact ⟨_, .inr ⟨call_tuple_of, by decide +kernel⟩, lk_tuple⟩
  | all => exact ⟨_, .inl ⟨cr_all hc, by decide +kernel⟩, lk_allB⟩
  | maxL => exact ⟨_, .inl ⟨cr_max hc, by decide +kernel⟩, lk_maxL⟩
  | min2 => exact ⟨_, .inl ⟨call_min2 hc, by decide +kernel⟩, lk_min2⟩
  | repr => exact ⟨_, .inl ⟨call_reprA hgd (by have := hr.un; omega), by decide +kernel⟩, lk_repr⟩
  | str => exact ⟨_, .inr ⟨call_str_int, by decide +kernel⟩, lk_strI⟩
  | intS => exact ⟨_, .inr ⟨call_int_str, by decide +kernel⟩, lk_intS⟩
theorem cDic_ok (ok : XOk P w K mg base cl.tb n N sc top X) (tk : Takes X (WC K cl H0 C0 ex)) (hf : ∀ e c, f e c = true → SndE P w K mg base cl G n N sc e c) {pos : Pos} : ∀ {ks : List (Option Expr)} {vs : List Expr} {cs ds : List CE}, chkDs f ks vs cs ds = true →
    ∃ trs, PPs X pos ks vs trs ∧ ks.all (·.isSome) = true ∧ ∀ σ H σc C Qc (Q : List (V × V) → Hp → Prop), S3 X.K cl H0 C0 σ H σc C → cPrs (rdLs G ex cs) (rdLs G ex ds) σc C Qc →
      (∀ ps C' qs H', Qc ps C' → RepL X.K H' (ps.map (·.1)) (qs.map (·.1)) → RepL X.K H' (ps.map (·.2)) (qs.map (·.2)) → Rel X.K cl H' C' → Keep H C H' C' → Q qs H') → tPairs trs σ H Q
  | [], [], [], [], _ => ⟨[], pps_nil, rfl, fun σ H σc C Qc Q S h hq => hq [] C [] H h .nil .nil S.r Keep.refl⟩
  | some k :: ks, v :: vs, c :: cs, d :: ds, h => by
    simp only [chkDs, Bool.and_eq_true] at h
    obtain ⟨⟨h1, h2⟩, h3⟩ := h
    obtain ⟨trs, p, a, q⟩ := cDic_ok ok tk hf h3
    refine ⟨_, pps_cons (hf k c h1 _ X H0 C0 ex ok tk) (hf v d h2 _ X H0 C0 ex ok tk) p, by rw [List.all_cons, a]; rfl, fun σ H σc C Qc Q S h hq => ⟨σc, C, _, S, h, fun x C1 xv H1 h1 rx R1 k1 => ⟨σc, C1, _, S.step k1 R1, h1, fun y C2 yv H2 h2 ry R2 k2 => ?_⟩⟩⟩
    refine q σ H2 σc C2 _ _ ((S.step k1 R1).step k2 R2) h2 fun ps C3 qs H3 h3 r1 r2 R3 k3 => ?_
    exact hq _ C3 _ H3 h3 (.cons ((rx.keep R1 k2).keep R2 k3) r1) (.cons (ry.keep R2 k3) r2) R3 ((k1.trans k2).trans k3)
  | [], [], [], _ :: _, h => by simp [chkDs] at h
  | [], [], _ :: _, _, h => by simp [chkDs] at h
  | [], _ :: _, _, _, h => by simp [chkDs] at h
  | none :: _, _, _, _, h => by simp [chkDs] at h
  | some _ :: _, [], _, _, h => by simp [chkDs] at h
  | some _ :: _, _ :: _, [], _, h => by simp [chkDs] at h
  | some _ :: _, _ :: _, _ :: _, [], h => by simp [chkDs] at h
theorem dicOf_rep {H : Hp} : ∀ {kvs : List (Key × D)} {vs : List (Key × V)} {acc : List (Key × D)} {acv : List (Key × V)}, RepF K H kvs vs → RepF K H acc acv → RepF K H (kvs.foldl (fun acc p => putC acc p.1 p.2) acc) (vs.foldl (fun acc p => putK acc p.1 p.2) acv)
  | [], vs, acc, acv, h, a => by cases h; exact a
  | (k, d) :: kvs, vs, acc, acv, h, a => by
    cases h with
    | cons r t =>
      rename_i v vs'
      exact dicOf_rep (kvs := kvs) (vs := vs') (acc := putC acc k d) (acv := putK acv k v) t (a.put _ r)
theorem cpe_dic0 {X : Cx} {cl : ClsT} {H0 : Hp} {C0 : CH} {pos : Pos} : CPE X cl H0 C0 (.Dict [] [] pos) cDic0 := pe_dnewK.imp fun σ H Q ⟨σc, C, Qc, S, h, hq⟩ p hp => hq _ _ _ _ (h p (free_of S.r hp)) (.ref _) (S.r.new hp _ _ ⟨[], upd_same, .nil⟩) (Keep.new hp S.r _ _)
theorem cpe_dic (ok : XOk P w K mg base cl.tb n N sc top X) (tk : Takes X (WC K cl H0 C0 ex)) (hf : ∀ e c, f e c = true → SndE P w K mg base cl G n N sc e c) {pos : Pos} {ks : List (Option Expr)} {vs : List Expr} {cs ds : List CE} (h : chkDs f ks vs cs ds = true) (h0 : ks ≠ []) (h15 : ks.length ≤ 15) (hl : ks.length = vs.length) :
    CPE X cl H0 C0 (.Dict ks vs pos) (cDic (rdLs G ex cs) (rdLs G ex ds)) := by
  obtain ⟨trs, p, a, q⟩ := cDic_ok (pos := pos) ok tk hf h
  refine (pe_disp p a hl h0 h15).imp fun σ H Q ⟨σc, C, Qc, S, h, hq⟩ p hp => ?_
  have R1 := S.r.newH hp (.dK [])
  have k1 := keep_newH hp (.dK []) S.r
  refine q σ _ σc C _ _ (S.step k1 R1) h fun ps C3 qs H3 ⟨kvs, e1, e2, e3, h3⟩ r1 r2 R3 k3 => ?_
  have hC : C p = none := free_of S.r hp
  obtain ⟨hp3, hC3⟩ := k3 p _ upd_same hC .dK
  -- the pairs by keys
  have go : ∀ (ps : List (D × D)) (qs : List (V × V)) (kvs : List (Key × D)), RepL X.K H3 (ps.map (·.1)) (qs.map (·.1)) → RepL X.K H3 (ps.map (·.2)) (qs.map (·.2)) → kvs.map (fun p => p.2) = ps.map (·.2) → ps.map (fun p => keyD p.1) = kvs.map (fun p => some p.1) →
      ∃ kvv : List (Key × V), qs = kvv.map (fun kv => (kV kv.1, kv.2)) ∧ RepF X.K H3 kvs kvv := by
    intro ps
    induction ps with
    | nil =>
      intro qs kvs a1 a2 a3 a4
      cases qs with
      | nil =>
        cases kvs with
        | nil => exact ⟨[], rfl, .nil⟩
        | cons _ _ => cases a3
      | cons _ _ => cases a1
    | cons pr ps ih =>
      intro qs kvs a1 a2 a3 a4
      cases qs with
      | nil => cases a1
      | cons qr qs =>
        cases kvs with
        | nil => cases a3
        | cons kr kvs =>
          rw [List.map_cons, List.map_cons] at a1 a2 a3 a4
          cases a1 with
          | cons x1 t1 =>
            cases a2 with
            | cons x2 t2 =>
              injection a3 with b1 b2
              injection a4 with c1 c2
              obtain ⟨kvv, d1, d2⟩ := ih qs kvs t1 t2 b2 c2
              have ek := keyD_rep c1 x1
              obtain ⟨q1, q2⟩ := qr
              obtain ⟨k1', k2'⟩ := kr
              simp only at b1 x2 ek
              subst b1
              exact ⟨(k1', q2) :: kvv, by rw [d1, List.map_cons]; exact congrArg (· :: _) (Prod.ext ek rfl), .cons x2 d2⟩
  obtain ⟨kvv, d1, d2⟩ := go ps qs kvs r1 r2 e1 e2
  refine ⟨hp3, kvv, d1, by rw [← d2.length]; exact e3, ?_⟩
  have dr := dicOf_rep (K := X.K) (H := H3) d2 .nil
  have nt : ∀ (b : Addr) (xs : List V), Rd H3 b (.tup xs) → b ≠ p := fun b xs h z => by
    subst z
    rcases h with h | ⟨u, h⟩ <;> (rw [hp3] at h; cases h)
  -- the dict at p is written: seen from a clean heap that knows it as empty
  have R4 : Rel X.K cl H3 (cup C3 p (.dic [])) := ⟨fun b o hb => by
    by_cases z : b = p
    · subst z; rw [cup_same] at hb; cases hb; exact ⟨[], hp3, .nil⟩
    · rw [cup_ne z] at hb; exact R3 b o hb, R3.tab⟩
  have kw : Keep H3 (cup C3 p (.dic [])) (upd H3 p (.dK (mergeK [] kvv))) (cup (cup C3 p (.dic [])) p (.dic (dicOf kvs))) := Keep.write cup_same _ _
  have R5 := R4.write (u' := .dic (dicOf kvs)) (o' := .dK (mergeK [] kvv)) cup_same hp3 (fun xs h => nt p xs h rfl) ⟨_, upd_same, dr.keep R4 kw⟩
  rw [cup_cup] at R5
  refine hq _ _ _ _ (h3 p hC3) (.ref p) R5 fun b o hb hn ht => ?_
  obtain ⟨z1, z2⟩ := (k1.trans k3) b o hb hn ht
  have nb : b ≠ p := ne_of_none hb hp
  exact ⟨by rw [upd_ne nb]; exact z1, by rw [cup_ne nb]; exact z2⟩
theorem kshape {np k : Nat} {g : List Src} {kn : Option (List Str)} {o : List Str → Option (Nat × List Src)} (h : shC kn k o np g = true) : ∃ ks, kn = some ks ∧ ks.length = k ∧ o ks = some (np, g) := by
  unfold shC at h
  cases kn with
  | none => cases h
  | some ks =>
    simp only [Bool.and_eq_true, decide_eq_true_eq] at h
    obtain ⟨h1, h2⟩ := h
    cases e : o ks with
    | none => rw [e] at h2; cases h2
    | some p =>
      obtain ⟨a, b⟩ := p
      rw [e] at h2
      simp only [Bool.and_eq_true, decide_eq_true_eq] at h2
      obtain ⟨h3, h4⟩ := h2
      exact ⟨ks, rfl, h1, by rw [e, h3, beqSs_eq h4]⟩
theorem lookup_mapv {α β : Type} {f : Str × α → Str × β} {g : Str → α → β} (hf : ∀ n k, f (n, k) = (n, g n k)) {x : Str} : ∀ {names : List (Str × α)}, (names.map f).lookup x = (names.lookup x).map (g x)
  | [] => rfl
  | (n, k) :: r => by
    rw [List.map_cons, hf, List.lookup_cons, List.lookup_cons, lookup_mapv hf]
    cases hb : x == n with
    | true =>
      have e : x = n := by simpa using hb
      subst e
      rfl
    | false => rfl
theorem rel_local {scope : Scope} {env : Env} {x : Str} {k : NameKind} (hk : (k == .free) = false) (h : scope.names.lookup x = some k) : (PySem.relabel scope env).names.lookup x = some k := by
  show (scope.names.map fun (n, k) => if (k == .free && env.scope.kind == .function && env.kindOf n == some .cell) then (n, .cell) else (n, k)).lookup x = some k
  rw [lookup_mapv (g := fun n k => if (k == .free && env.scope.kind == .function && env.kindOf n == some .cell) = true then .cell else k) (fun n k => by dsimp only; split <;> rfl), h]
  show some (if (k == .free && env.scope.kind == .function && env.kindOf x == some .cell) = true then .cell else k) = some k
  rw [hk]
  rfl
/-- the target of a comprehension -/
theorem blk_tg (ok : XOk P w K mg base cl.tb n N sc top X) {scope : Scope} {tg : Expr} {T' : CT} (h : tgC N scope tg T' = true) {s : Shared} {H : Hp} {C : Addr} {cs : List (Str × Addr)} {fp : List Addr} :
    PG (X.blk s H scope (compEnvC scope cs C X.env) fp) tg (tgV K T') := by
  have one : ∀ x i, nmL N scope x i = true → (X.blk s H scope (compEnvC scope cs C X.env) fp).N[i]? = some x ∧ L2.Loc (X.blk s H scope (compEnvC scope cs C X.env) fp).env.scope x ∧ ((X.blk s H scope (compEnvC scope cs C X.env) fp).fn x = true ∨ (X.blk s H scope (compEnvC scope cs C X.env) fp).env.scope.names.lookup x = some .local) := fun x i hx => by
    obtain ⟨h1, h2⟩ := nmL_ok hx
    refine ⟨by show X.N[i]? = some x; rw [ok.N_]; exact h1, ?_, ?_⟩
    · rcases h2 with h2 | h2
      · exact .inl (rel_local rfl h2)
      · exact .inr (rel_local rfl h2)
    · rcases h2 with h2 | h2
      · exact .inr (rel_local rfl h2)
      · exact .inl (by show (scope.names.lookup x == some .cell) = true; rw [h2]; rfl)
  have nd : (X.blk s H scope (compEnvC scope cs C X.env) fp).N.Nodup := by show X.N.Nodup; rw [ok.N_]; exact ok.nd
  cases T' with
  | nm i =>
    unfold tgC at h
    simp only at h
    split at h
    · obtain ⟨a, b, c⟩ := one _ _ h
      exact pg_name nd a b c
    · cases h
  | tp is =>
    unfold tgC at h
    simp only at h
    split at h
    · rename_i xs k p
      simp only [Bool.and_eq_true, decide_eq_true_eq, List.all_eq_true] at h
      obtain ⟨hl, ha⟩ := h
      have ck : (X.blk s H scope (compEnvC scope cs C X.env) fp).K = K := ok.K_
      have len : ∀ (es : List Expr) (env : Env), (assignEach es env).length = es.length := fun es env => by
        induction es with
        | nil => rfl
        | cons e es ih => cases e <;> exact congrArg (· + 1) ih
      have names : ∀ e ∈ xs, ∃ x p, e = .Name x p := fun e he => by
        obtain ⟨j, hj, ej⟩ := List.getElem_of_mem he
        have := ha (e, is[j]'(by omega)) (by rw [← ej]; exact List.mem_of_getElem? (i := j) (by rw [List.getElem?_zip_eq_some]; exact ⟨List.getElem?_eq_getElem hj, List.getElem?_eq_getElem (by omega)⟩))
        cases e <;> first | exact ⟨_, _, rfl⟩ | (simp at this)
      have nostar : ∀ (es : List Expr) (env : Env), (∀ e ∈ es, ∃ x p, e = Expr.Name x p) → (assignEach es env).findIdx? (·.1) = none := fun es env => by
        induction es with
        | nil => intro _; rfl
        | cons e es ih =>
          intro hn
          obtain ⟨x, p, rfl⟩ := hn e List.mem_cons_self
          show List.findIdx? (·.1) ((false, _) :: assignEach es env) = none
          rw [List.findIdx?_cons]
          simp [ih fun e he => hn e (List.mem_cons_of_mem _ he)]
      have all := pgs_all (X := X.blk s H scope (compEnvC scope cs C X.env) fp) nd hl fun j e i a b => by
        have := ha (e, i) (List.mem_of_getElem? (i := j) (by rw [List.getElem?_zip_eq_some]; exact ⟨a, b⟩))
        cases e <;> first | (obtain ⟨a1, a2, a3⟩ := one _ _ this; exact ⟨_, _, rfl, a1, a2, a3⟩) | (simp at this)
      have := pg_tup (X := X.blk s H scope (compEnvC scope cs C X.env) fp) (k := k) (pos := p) (n := is.length) ok.calm all (by rw [len]; exact hl) (nostar _ _ names)
      rw [ck] at this
      exact this
    · cases h
end
end L3
namespace L3
open PySem L2
section
variable {T : Tab} {P : Program} {w : World} {K : PySem.W.Frag} {mg : Str → Option Value} {base : Heap} {cl : ClsT} {G : G3} {n : Nat} {N : List Str}
theorem blk_ok {top : Bool} {X : Cx} {sc scope : Scope} {s : Shared} {H : Hp} {C : Addr} {cs : List (Str × Addr)} {fp : List Addr} (ok : XOk P w K mg base cl.tb n N sc top X) (hk : scope.kind = .function) (hnl : ∀ r ∈ cl.tb, r.names ≠ (relS scope sc).names) : XOk P w K mg base cl.tb n N (relS scope sc) false (X.blk s H scope (compEnvC scope cs C X.env) fp) := by
  refine ⟨ok.P_, ok.w_, ok.K_, ok.mg_, ok.base_, ok.N_, ok.nd, ?_, hk, ok.calm, ok.room, fun z => (nomatch z), PassesOwn.never, ok.gd, fun z => (nomatch z), fun r hr e => absurd e (hnl r hr)⟩
  show PySem.relabel scope X.env = relS scope sc
  rw [← ok.sc_]
  rfl
theorem noLam (F : Facts T P w K mg base cl G n) {l : List (Str × NameKind)} (h : T.lamS l = none) : ∀ r ∈ cl.tb, r.names ≠ l := fun r hr e => by
  obtain ⟨j, hj⟩ := List.getElem?_of_mem hr
  exact F.lamI j r hj (by rw [e]; exact h)
theorem noArgs_eq {p : Arguments} (h : noArgs p = true) : p = ⟨[], [], none, [], [], none, []⟩ := by
  unfold noArgs at h
  split at h
  · rfl
  · cases h
theorem chk_soundG : ∀ fuel {G : G3} {n : Nat} (F : Facts T P w K mg base cl G n) sc e c, (chkE T N fuel sc e c = true → SndE P w K mg base cl G n N sc e c) ∧ (chkT T N fuel sc e c = true → SndT P w K mg base cl G n N sc e c)
  | 0, G, n, F, sc, e, c => ⟨fun h => by simp [chkE] at h, fun h => by simp [chkT] at h⟩
  | fuel + 1, G, n, F, sc, e, c => by
    have ihE : ∀ e c, chkE T N fuel sc e c = true → SndE P w K mg base cl G n N sc e c := fun e c => (chk_soundG fuel F sc e c).1
    have ihT : ∀ e c, chkT T N fuel sc e c = true → SndT P w K mg base cl G n N sc e c := fun e c => (chk_soundG fuel F sc e c).2
    refine ⟨fun h top X H0 C0 ex ok tk => ?_, fun h top X H0 C0 ex ok tk => ?_⟩
    · have go : ∀ {e c}, chkE T N fuel sc e c = true → CPE X cl H0 C0 e (rdE G ex c) := fun h => ihE _ _ h top X H0 C0 ex ok tk
      have goT : ∀ {e c}, chkT T N fuel sc e c = true → CPT X cl H0 C0 e (rdT G ex c) := fun h => ihT _ _ h top X H0 C0 ex ok tk
      have hu : X.A.units + 1 < cLine := hu_of ok.room
      cases c with
      | var i =>
        simp only [chkE] at h
        split at h
        · obtain ⟨h1, h2, h3, h4⟩ := nmV_ok h
          exact cpe_var (by rw [ok.N_]; exact h1) (by rw [ok.sc_]; exact h2) h3 h4
        · cases h
      | cst d =>
        simp only [chkE] at h
        split at h
        · split at h
          · exact cpe_non
          · rw [eq_of_beq h]; exact cpe_bl
          · rw [eq_of_beq h]; exact cpe_int
          · rw [of_decide_eq_true h]; exact cpe_str
          · cases h
        · cases h
      | glb x d =>
        simp only [chkE] at h
        split at h
        · simp only [Bool.and_eq_true, decide_eq_true_eq] at h
          obtain ⟨⟨h1, h2⟩, h3⟩ := h
          subst h1
          obtain ⟨g1, g2⟩ := glN_ok ok.sc_ h2
          split at h3
          · rename_i d' hd
            obtain ⟨u, v, m1, m2, m3⟩ := F.glb _ _ hd
            rw [← beqD_eq h3] at m3
            rw [← ok.mg_] at m1
            rw [← ok.K_] at m3
            exact cpe_glob g1 m1 m2 m3 g2
          · cases h3
        · cases h
      | bin o a b =>
        simp only [chkE] at h
        split at h
        · simp only [Bool.and_eq_true, decide_eq_true_eq] at h
          obtain ⟨⟨h1, h2⟩, h3⟩ := h
          subst h1
          obtain ⟨r, r1, r2⟩ := semB_ok (X := X) (cl := cl) o
          exact cpe_bin r1 r2 (go h2) (go h3)
        · cases h
      | neg a =>
        simp only [chkE] at h
        split at h
        · exact cpe_un un_neg lk_neg (go h)
        · cases h
      | cmp o a b =>
        simp only [chkE] at h
        split at h
        · simp only [Bool.and_eq_true, decide_eq_true_eq] at h
          obtain ⟨⟨⟨h1, h2⟩, h3⟩, h4⟩ := h
          subst h1
          obtain ⟨r, r1, r2⟩ := semC_ok (cl := cl) (by rw [F.clP, ok.P_]) (by rw [F.clw, ok.w_]) F.lv ok.room o
          exact cpe_cmp r1 r2 (go h3) (go h4) (notSet_mark h2)
        · cases h
      | chain o o' a b c =>
        simp only [chkE] at h
        split at h
        · simp only [Bool.and_eq_true, decide_eq_true_eq] at h
          obtain ⟨⟨⟨⟨⟨h1, h1'⟩, h2⟩, h3⟩, h4⟩, h5⟩ := h
          subst h1; subst h1'
          obtain ⟨r, r1, r2⟩ := semC_ok (cl := cl) (by rw [F.clP, ok.P_]) (by rw [F.clw, ok.w_]) F.lv ok.room o
          obtain ⟨r', r1', r2'⟩ := semC_ok (cl := cl) (by rw [F.clP, ok.P_]) (by rw [F.clw, ok.w_]) F.lv ok.room o'
          exact cpe_chain r1 r1' r2 r2' (go h3) (go h4) (go h5) (notSet_mark h2)
        · cases h
      | and a b =>
        simp only [chkE] at h
        split at h
        · exact snd_boolE_and ok tk (fun e c h => ihE e c h) h
        · cases h
      | or a b =>
        simp only [chkE] at h
        split at h
        · exact snd_boolE_or ok tk (fun e c h => ihE e c h) h
        · cases h
      | not a =>
        simp only [chkE] at h
        split at h
        · exact cpe_not (go h)
        · cases h
      | ite t a b =>
        simp only [chkE] at h
        split at h
        · simp only [Bool.and_eq_true] at h
          obtain ⟨⟨h1, h2⟩, h3⟩ := h
          exact cpe_if (goT h1) (go h2) (go h3)
        · cases h
      | tup es =>
        simp only [chkE] at h
        split at h
        · exact cpe_tup (snd_args ok tk ihE h).1
        · cases h
      | lst es =>
        simp only [chkE] at h
        split at h
        · exact cpe_lst (snd_args ok tk ihE h).1
        · cases h
      | dic ks vs =>
        simp only [chkE] at h
        split at h
        · simp only [Bool.and_eq_true, decide_eq_true_eq, Bool.not_eq_true'] at h
          obtain ⟨⟨⟨h1, h2⟩, h3⟩, h4⟩ := h
          exact cpe_dic ok tk ihE h1 (fun z => by rw [z] at h2; cases h2) h3 h4
        · cases h
      | idx a b =>
        simp only [chkE] at h
        split at h
        · simp only [Bool.and_eq_true] at h
          obtain ⟨⟨h1, h2⟩, h3⟩ := h
          exact cpe_ix hu (go h1) (go h2) h3
        · cases h
      | dic0 =>
        simp only [chkE] at h
        split at h
        · exact cpe_dic0
        · cases h
      | nev => exact cpe_nev
      | slice a lo hi =>
        simp only [chkE] at h
        split at h
        · simp only [Bool.and_eq_true] at h
          obtain ⟨⟨h1, h2⟩, h3⟩ := h
          exact cpe_slice (go h1) (snd_o ok tk ihE h2) (snd_o ok tk ihE h3)
        · cases h
      | call f np m k g es ks =>
        simp only [chkE] at h
        split at h
        · simp only [Bool.and_eq_true, decide_eq_true_eq] at h
          obtain ⟨⟨⟨⟨h1, h2⟩, h3⟩, h4⟩, h5⟩ := h
          obtain ⟨g1, g2⟩ := glN_ok ok.sc_ h1
          obtain ⟨kn, e1, e2, e3⟩ := kshape h3
          obtain ⟨a, m1, m2, fd, ps, np', F1, F2⟩ := F.fn _ _ h2
          obtain ⟨rfl, B⟩ := F2 _ _ _ _ e3
          obtain ⟨A, A1, A2, A3⟩ := snd_args ok tk ihE h4
          obtain ⟨rfl, rfl, rfl, rfl, rfl⟩ := (⟨ok.P_, ok.w_, ok.K_, ok.mg_, ok.base_⟩ : X.prog = P ∧ X.w = w ∧ X.K = K ∧ X.mg = mg ∧ X.base = base)
          subst e2
          exact cpe_call F1 ok.room ok.gd g1 m1 m2 B tk A1 e1 A (snd_kws ok tk ihE h5) A3 g2
        · cases h
      | isi u a =>
        simp only [chkE] at h
        split at h
        · simp only [Bool.and_eq_true, decide_eq_true_eq] at h
          obtain ⟨⟨⟨⟨⟨h1, h2⟩, h3⟩, h4⟩, h5⟩, h6⟩ := h
          subst h1
          obtain ⟨g1, g2⟩ := glN_ok ok.sc_ h2
          have hm := F.blt _ h3
          rw [← ok.mg_] at hm
          unfold isiC at h6
          split at h6
          · rename_i x' p'
            simp only [Bool.and_eq_true] at h6
            obtain ⟨⟨k1, k2⟩, k3⟩ := h6
            obtain ⟨g3, g4⟩ := glN_ok ok.sc_ k1
            obtain ⟨rfl, rfl, rfl, rfl, rfl⟩ := (⟨ok.P_, ok.w_, ok.K_, ok.mg_, ok.base_⟩ : X.prog = P ∧ X.w = w ∧ X.K = K ∧ X.mg = mg ∧ X.base = base)
            split at k3
            · rename_i nm
              simp only [Bool.and_eq_true, decide_eq_true_eq, Bool.not_eq_true', decide_eq_false_iff_not] at k3
              obtain ⟨⟨l1, l2⟩, l3⟩ := k3
              exact cpe_isi (vc := .ty nm) F.kit (fun c Ca b z1 z2 => F.kitc c _ b Ca z1 z2) (go h4) (pe_bltn g3 (F.blt _ l1) l2 rfl l3 g4) (fun w' hw => by cases hw; exact .ty nm) g1 hm h5 k2
            · rename_i kc
              have l1 := of_decide_eq_true k3
              obtain ⟨Ca, c1, c2⟩ := F.cls _ _ l1
              exact cpe_isi (vc := .ref Ca) F.kit (fun c Ca b z1 z2 => F.kitc c _ b Ca z1 z2) (go h4) (pe_glob g3 c2 rfl g4) (fun w' hw => by
                have hw' : (cl kc).map Value.ref = some w' := hw
                rw [c1] at hw'
                cases hw'
                exact .own Ca) g1 hm h5 k2
          · cases h6
        · cases h
      | fmt a =>
        simp only [chkE] at h
        split at h
        · simp only [Bool.and_eq_true, decide_eq_true_eq] at h
          rw [h.1]
          exact cpe_fmt (go h.2)
        · cases h
      | fst es =>
        simp only [chkE] at h
        split at h
        · exact cpe_fst (snd_js ok tk ihE h)
        · cases h
      | bi b es =>
        simp only [chkE] at h
        split at h
        · rename_i x0 p0 xs pos0
          simp only [Bool.and_eq_true, decide_eq_true_eq] at h
          obtain ⟨⟨⟨⟨h1, h2⟩, h3⟩, h4⟩, h5⟩ := h
          subst h1
          obtain ⟨g1, g2⟩ := glN_ok ok.sc_ h2
          have hm := F.blt _ h3
          rw [← ok.mg_] at hm
          obtain ⟨A, A1, A2, A3⟩ := snd_args ok tk ihE h5
          obtain ⟨r, hr, l⟩ := semBI_ok (X := X) (cl := cl) ok.calm ok.gd F.lv ok.room b
          have hn : biN b ≠ ("__name__" : Str) := by cases b <;> decide +kernel
          cases xs with
          | nil => cases b <;> simp [biA] at h4
          | cons x xs =>
            rw [List.all_cons, Bool.and_eq_true] at A1
            rcases hr with ⟨hc, hv⟩ | ⟨hc, hv⟩
            · exact cpe_callB hc l g1 hm hv A hn g2 (star_of A1.1) (star_any A1.2)
            · exact cpe_callTy hc l g1 hm hv A hn g2 (star_of A1.1) (star_any A1.2)
        · cases h
      | mt m o es =>
        simp only [chkE] at h
        split at h
        · simp only [Bool.and_eq_true, decide_eq_true_eq] at h
          obtain ⟨⟨⟨⟨⟨h1, h2⟩, h3⟩, h4⟩, h5⟩, h6⟩ := h
          subst h1
          obtain ⟨A, A1, A2, A3⟩ := snd_args ok tk ihE h4
          have hl : ∀ {j : Nat}, miA m j = true → j < 30 := fun {j} z => by
            cases m <;> (simp only [miA, beq_iff_eq] at z; omega)
          have hl' := hl h2
          cases m with
          | append => exact cpe_mt PySem.F.plainAttrs_list PySem.F.slot_list_append PySem.F.type_list_append mt_append lk_append lkTy_lst (go h3) A A3 A1 hl' h5 h6
          | popAt => exact cpe_mt PySem.F.plainAttrs_list PySem.F.slot_list_pop PySem.F.type_list_pop mt_popAt lk_popAt lkTy_lst (go h3) A A3 A1 hl' h5 h6
          | join => exact cpe_mt PySem.F.plainAttrs_str PySem.F.slot_str_join PySem.F.type_str_join mt_join lk_join lkTy_str (go h3) A A3 A1 hl' h5 h6
        · cases h
      | lam g c =>
        simp only [chkE] at h
        split at h
        · rename_i x p params body scope lpos pos
          simp only [Bool.and_eq_true, decide_eq_true_eq] at h
          obtain ⟨⟨⟨⟨⟨⟨h1, h2⟩, h3⟩, h4⟩, h5⟩, h6⟩, h7⟩ := h
          obtain ⟨g1, g2⟩ := glN_ok ok.sc_ h1
          obtain ⟨j, hj⟩ := Option.isSome_iff_exists.mp h3
          obtain ⟨r, r1, r2⟩ := F.lamS _ _ hj
          have hr := List.mem_of_getElem? r1
          obtain ⟨t2, t3, t4⟩ := ok.tab r hr r2
          have L := LamX.lamS_by h4
          have hnl := noLam F h6
          have ea := noArgs_eq h5
          subst ea
          rcases F.lam with z | ⟨m, em, FB, D⟩
          · exact ⟨fun pins s σ H Q I ⟨σc, C, Qc, S, hh, hE⟩ => (z _ _ _ _ _ _ (hh s.heap.objs.size (free_of S.r (I.hok.fresh (Nat.le_refl _))))).elim⟩
          obtain ⟨a, m1, m2, m3⟩ := D _ _ h2
          refine cpe_lam (r := r) (m := m) g1 (by rw [ok.mg_]; exact m1) (by rw [ok.K_]; exact m2) (by rw [ok.P_, ok.w_, ok.K_, ok.mg_, ok.base_]; exact m3) t3 t2 t4 hr (F.lamU r hr) (em ▸ ok.room) ok.gd (by rw [ok.sc_]; exact L) rfl (fun _ _ _ _ _ => rfl) (by rw [ok.K_]; exact tk) (fun A outer s H E f c' H0' C0' ex' hrm hgd tkL => ?_) g2
          exact (chk_soundG fuel FB.low scope _ _).1 h7 false (LamX.lamCx X A outer s H E scope f c') H0' C0' ex' ⟨ok.P_, ok.w_, ok.K_, ok.mg_, ok.base_, ok.N_, ok.nd, rfl, L.kind, rfl, hrm, fun z => (nomatch z), passes_of rfl, hgd, fun z => (nomatch z), fun r hr e => absurd e (hnl r hr)⟩ (by rw [← ok.K_]; exact tkL)
        · cases h
      | lc c T' vs k it ifs =>
        simp only [chkE] at h
        split at h
        · simp only [Bool.and_eq_true, decide_eq_true_eq] at h
          obtain ⟨⟨⟨⟨⟨⟨⟨⟨⟨h1, h2⟩, h3⟩, h4⟩, h5⟩, h6⟩, h7⟩, h8⟩, h9⟩, h10⟩ := h
          subst h1
          have hnl := noLam F h10
          rename_i elt tg iter ifs' scope pos
          obtain ⟨I1, I2⟩ := snd_it (tg := tg) F ok tk ihE h6
          have hk : scope.kind = .function := by
            unfold blkC at h2
            simp only [Bool.and_eq_true] at h2
            have := h2.1.1.1
            split at this
            · assumption
            · cases this
          have ev : ((tgNs tg).zip T'.slots).map (·.2) = T'.slots := by
            rw [List.map_snd_zip]
            omega
          have q := cpe_lc (X := X) (cl := cl) (H0 := H0) (C0 := C0) (pos := pos) (own := (tgNs tg).zip T'.slots) (T := T') (scope := scope) ok.calm (by rw [ok.N_]; exact ok.nd) I1 (by rw [ok.N_, ok.sc_]; exact blkOk_by h2) (by rw [ev]; exact fun i hi => hi)
            (fun s H C cs fp => by rw [ok.K_]; exact blk_tg ok h5) (fun s H C cs fp => snd_ifs (blk_ok ok hk hnl) takes_bot (fun e c => (chk_soundG fuel F (relS scope sc) e c).2) h7)
            (fun s H C cs fp => (chk_soundG fuel F (relS scope sc) _ _).1 h8 _ _ H0 C0 _ (blk_ok ok hk hnl) takes_bot) (notSet_fold h9)
          rw [ev] at q
          rw [h3]
          exact q
        · cases h
    · have go : ∀ {e c}, chkE T N fuel sc e c = true → CPE X cl H0 C0 e (rdE G ex c) := fun h => ihE _ _ h top X H0 C0 ex ok tk
      have goT : ∀ {e c}, chkT T N fuel sc e c = true → CPT X cl H0 C0 e (rdT G ex c) := fun h => ihT _ _ h top X H0 C0 ex ok tk
      cases c with
      | and a b =>
        simp only [chkT] at h
        split at h
        · exact (snd_boolT_and ok tk (fun e c h => ihT e c h) h).pt
        · cases h
      | or a b =>
        simp only [chkT] at h
        split at h
        · exact (snd_boolT_or ok tk (fun e c h => ihT e c h) h).pt
        · cases h
      | not a =>
        simp only [chkT] at h
        split at h
        · exact cpt_not (goT h)
        · cases h
      | cmp o a b =>
        simp only [chkT] at h
        split at h
        · simp only [Bool.and_eq_true, decide_eq_true_eq] at h
          obtain ⟨⟨⟨h1, h2⟩, h3⟩, h4⟩ := h
          subst h1
          obtain ⟨r, r1, r2⟩ := semC_ok (cl := cl) (by rw [F.clP, ok.P_]) (by rw [F.clw, ok.w_]) F.lv ok.room o
          exact cpt_cmp r1 r2 (go h3) (go h4) (notSet_mark h2)
        · cases h
      | chain o o' a b c =>
        simp only [chkT] at h
        split at h
        · simp only [Bool.and_eq_true, decide_eq_true_eq] at h
          obtain ⟨⟨⟨⟨⟨h1, h1'⟩, h2⟩, h3⟩, h4⟩, h5⟩ := h
          subst h1; subst h1'
          obtain ⟨r, r1, r2⟩ := semC_ok (cl := cl) (by rw [F.clP, ok.P_]) (by rw [F.clw, ok.w_]) F.lv ok.room o
          obtain ⟨r', r1', r2'⟩ := semC_ok (cl := cl) (by rw [F.clP, ok.P_]) (by rw [F.clw, ok.w_]) F.lv ok.room o'
          exact cpt_chain r1 r1' r2 r2' (go h3) (go h4) (go h5) (notSet_mark h2)
        · cases h
      | _ =>
        simp only [chkT, Bool.and_eq_true] at h
        exact cpt_val (go h.2) (plain_of h.1)
theorem chk_sound (F : Facts T P w K mg base cl G n) : ∀ fuel sc e c, (chkE T N fuel sc e c = true → SndE P w K mg base cl G n N sc e c) ∧ (chkT T N fuel sc e c = true → SndT P w K mg base cl G n N sc e c) := fun fuel sc e c => chk_soundG fuel F sc e c
noncomputable def SndS (P : Program) (w : World) (K : PySem.W.Frag) (mg : Str → Option Value) (base : Heap) (cl : ClsT) (G : G3) (n : Nat) (N : List Str) (sc : Scope) (s : Stmt) (c : CS) : Prop :=
  ∀ X H0 C0 ex, XOk P w K mg base cl.tb n N sc true X → Takes X (WC K cl H0 C0 ex) → CPS X cl H0 C0 s (rdS G ex c)
theorem snd_ss {sc : Scope} {X : Cx} {H0 : Hp} {C0 : CH} {ex : Kxs} {f : Stmt → CS → Bool} (hf : ∀ s c, f s c = true → CPS X cl H0 C0 s (rdS G ex c)) : ∀ {ss : List Stmt} {cs : List CS}, chkSs f ss cs = true → CPSs X cl H0 C0 ss (rdSs G ex cs)
  | [], [], _ => cpss_nil
  | s :: ss, c :: cs, h => by
    simp only [chkSs, Bool.and_eq_true] at h
    exact cpss_cons (hf _ _ h.1) (snd_ss (sc := sc) hf h.2)
  | [], _ :: _, h => by simp [chkSs] at h
  | _ :: _, [], h => by simp [chkSs] at h
theorem top_tg {X : Cx} {sc : Scope} (ok : XOk P w K mg base cl.tb n N sc true X) {tg : Expr} {T' : CT} (h : tgC N sc tg T' = true) : PG X tg (tgV X.K T') ∧ (assignEach [tg] X.env).map (·.2) = [assign tg X.env] := by
  have one : ∀ x i, nmL N sc x i = true → X.N[i]? = some x ∧ L2.Loc X.env.scope x ∧ (X.fn x = true ∨ X.env.scope.names.lookup x = some .local) := fun x i hx => by
    obtain ⟨h1, h2⟩ := nmL_ok hx
    rw [ok.N_, ok.sc_]
    exact ⟨h1, h2, ok.loc rfl x h2⟩
  have nd : X.N.Nodup := by rw [ok.N_]; exact ok.nd
  cases T' with
  | nm i =>
    unfold tgC at h
    simp only at h
    split at h
    · obtain ⟨a, b, c⟩ := one _ _ h
      exact ⟨pg_name nd a b c, rfl⟩
    · cases h
  | tp is =>
    unfold tgC at h
    simp only at h
    split at h
    · rename_i xs k p
      simp only [Bool.and_eq_true, decide_eq_true_eq, List.all_eq_true] at h
      obtain ⟨hl, ha⟩ := h
      have len : ∀ (es : List Expr) (env : Env), (assignEach es env).length = es.length := fun es env => by
        induction es with
        | nil => rfl
        | cons e es ih => cases e <;> exact congrArg (· + 1) ih
      have names : ∀ e ∈ xs, ∃ x p, e = .Name x p := fun e he => by
        obtain ⟨j, hj, ej⟩ := List.getElem_of_mem he
        have := ha (e, is[j]'(by omega)) (by rw [← ej]; exact List.mem_of_getElem? (i := j) (by rw [List.getElem?_zip_eq_some]; exact ⟨List.getElem?_eq_getElem hj, List.getElem?_eq_getElem (by omega)⟩))
        cases e <;> first | exact ⟨_, _, rfl⟩ | (simp at this)
      have nostar : ∀ (es : List Expr) (env : Env), (∀ e ∈ es, ∃ x p, e = Expr.Name x p) → (assignEach es env).findIdx? (·.1) = none := fun es env => by
        induction es with
        | nil => intro _; rfl
        | cons e es ih =>
          intro hn
          obtain ⟨x, p, rfl⟩ := hn e List.mem_cons_self
          show List.findIdx? (·.1) ((false, _) :: assignEach es env) = none
          rw [List.findIdx?_cons]
          simp [ih fun e he => hn e (List.mem_cons_of_mem _ he)]
      have all := pgs_all (X := X) nd hl fun j e i a b => by
        have := ha (e, i) (List.mem_of_getElem? (i := j) (by rw [List.getElem?_zip_eq_some]; exact ⟨a, b⟩))
        cases e <;> first | (obtain ⟨a1, a2, a3⟩ := one _ _ this; exact ⟨_, _, rfl, a1, a2, a3⟩) | (simp at this)
      exact ⟨pg_tup (X := X) (k := k) (pos := p) (n := is.length) ok.calm all (by rw [len]; exact hl) (nostar _ _ names), rfl⟩
    · cases h
theorem sole_sub {x y e : Expr} {p : Pos} {l : Nat} {env : Env} : swapsWithSole [.Subscript x y p] e l env = pure false := by
  cases e <;> rfl
theorem sole_none {tg e : Expr} {l : Nat} {env : Env} (h : notComp e = true) : swapsWithSole [tg] e l env = pure false := swap_none h
theorem swapped_none {tg e : Expr} {env : Env} (h : (match e with | .Tuple .. => false | _ => true) = true) : swappedStores [tg] e env = pure none := by
  unfold swappedStores
  cases tg <;> first | rfl | (cases e <;> first | rfl | (cases h; done))
theorem filterMap_lt {α β : Type} (f : α → Option β) : ∀ {xs : List α} {x : α}, x ∈ xs → f x = none → (xs.filterMap f).length < xs.length
  | y :: ys, x, hm, hf => by
    have hle := List.length_filterMap_le f ys
    rcases List.mem_cons.mp hm with e | hm
    · subst e
      rw [List.filterMap_cons, hf]
      show (ys.filterMap f).length < ys.length + 1
      omega
    · have := filterMap_lt f hm hf
      rw [List.filterMap_cons]
      cases f y with
      | none => show (ys.filterMap f).length < ys.length + 1; omega
      | some z => show (ys.filterMap f).length + 1 < ys.length + 1; omega
theorem swapped_none2 {xs : List Expr} {k : Nat} {tp : Pos} {e : Expr} {env : Env} (h : (match e with | .Tuple vs _ _ => decide (4 ≤ xs.length) || xs.any (fun z => match z with | .Name y _ => !decide (env.scope.names.lookup y = some .local) | _ => false) || vs.all (foldedForSure 8) | _ => true) = true) : swappedStores [.Tuple xs k tp] e env = pure none := by
  cases e with
  | Tuple es k2 p2 =>
    simp only [Bool.or_eq_true, decide_eq_true_eq, List.any_eq_true] at h
    unfold swappedStores
    simp only
    by_cases c1 : (!(xs.length == 2 || xs.length == 3) || es.length != xs.length || env.blockKind != .function) = true
    · rw [if_pos c1]
    · rw [if_neg c1]
      by_cases c2 : (es.any fun x => match x with | .Starred .. => true | _ => false) = true
      · exact if_pos c2
      · refine (if_neg c2).trans ?_
        rcases h with (h | ⟨z, hz, h⟩) | h
        · exfalso
          apply c1
          have a1 : (xs.length == 2) = false := by simpa using (by omega : xs.length ≠ 2)
          have a2 : (xs.length == 3) = false := by simpa using (by omega : xs.length ≠ 3)
          rw [a1, a2]
          rfl
        · refine if_pos ?_
          rw [Bool.or_eq_true]
          left
          have := filterMap_lt (fun x => match x with
            | .Name id pos => if (env.kindOf id == some NameKind.local && pos.line == (Option.map (fun x => x.pos.line) xs.head?).getD 0) = true then some id else none
            | _ => none) hz (by
              cases z with
              | Name y p =>
                simp only [Bool.not_eq_true', decide_eq_false_iff_not] at h
                have q : (env.kindOf y == some NameKind.local) = false := by
                  cases q : env.kindOf y == some NameKind.local with
                  | false => rfl
                  | true => exact absurd (show env.scope.names.lookup y = some .local from eq_of_beq q) h
                simp [q]
              | _ => cases h)
          exact bne_iff_ne.mpr (Nat.ne_of_lt this)
        · generalize (List.filterMap _ xs) = ns
          by_cases c3 : (ns.length != xs.length || ns.eraseDups.length != ns.length) = true
          · exact if_pos c3
          · exact (if_neg c3).trans (if_pos h)
  | _ => exact swapped_none rfl
theorem swapped_three {env : Env} {x y z : Str} {px py pz pt : Pos} {kt k2 : Nat} {pt2 : Pos} {a b c : Expr} (hk : env.scope.kind = .function) (hx : env.scope.names.lookup x = some .local) (hy : env.scope.names.lookup y = some .local) (hz : env.scope.names.lookup z = some .local) (ha : notStar a = true) (hb : notStar b = true) (hcc : notStar c = true) (hl : (px.line == py.line) = true) (hl3 : (px.line == pz.line) = true) (hne : x ≠ y) (hne2 : x ≠ z) (hne3 : y ≠ z)
    (hf : (foldedForSure 8 a && (foldedForSure 8 b && foldedForSure 8 c)) = false) (hc : (constantsAlone 8 a && (constantsAlone 8 b && constantsAlone 8 c)) = false) : swappedStores [.Tuple [.Name x px, .Name y py, .Name z pz] kt pt] (.Tuple [a, b, c] k2 pt2) env = pure (some [x, y, z]) := by
  have hb' : (env.blockKind != .function) = false := by unfold Env.blockKind; rw [hk]; rfl
  have kx : (env.kindOf x == some .local) = true := by rw [show env.kindOf x = some .local from hx]; rfl
  have ky : (env.kindOf y == some .local) = true := by rw [show env.kindOf y = some .local from hy]; rfl
  have kz : (env.kindOf z == some .local) = true := by rw [show env.kindOf z = some .local from hz]; rfl
  have hxy : (x == y) = false := by simpa using hne
  have hyx : (y == x) = false := by simpa using hne.symm
  have hxz : (x == z) = false := by simpa using hne2
  have hzx : (z == x) = false := by simpa using hne2.symm
  have hyz : (y == z) = false := by simpa using hne3
  have hzy : (z == y) = false := by simpa using hne3.symm
  have hl2 : (py.line == px.line) = true := by
    have := eq_of_beq hl
    rw [this]; simp
  have hl4 : (pz.line == px.line) = true := by
    have := eq_of_beq hl3
    rw [this]; simp
  have hdup : ([x, y, z].eraseDups).length = 3 := by
    simp [List.eraseDups, List.eraseDupsBy, List.eraseDupsBy.loop, hxy, hyx, hxz, hzx, hyz, hzy]
  unfold swappedStores
  simp only [hb', kx, ky, kz, hl2, hl4, List.length_cons, List.length_nil, List.all_cons, List.all_nil, Bool.and_true, hf, hc, List.head?_cons, Option.map_some, Option.getD_some, Expr.pos, List.filterMap_cons, List.filterMap_nil, beq_self_eq_true, Bool.true_and, if_true]
  simp only [hdup, bne_self_eq_false, Bool.false_eq_true, if_false, Bool.or_self, Bool.not_true, beq_self_eq_true]
  simp
  intro hh
  exfalso
  rcases hh with hh | hh | hh
  · cases a <;> first | (cases ha; done) | (cases hh; done)
  · cases b <;> first | (cases hb; done) | (cases hh; done)
  · cases c <;> first | (cases hcc; done) | (cases hh; done)
theorem cps_setT {X : Cx} {H0 : Hp} {C0 : CH} {i : Nat} {x : Str} {e : Expr} {ca : CTE} {pos pos' : Pos} (hN : X.N.Nodup) (hi : X.N[i]? = some x) (hx : L2.Loc X.env.scope x) (he : CPE X cl H0 C0 e ca) (hs : swapsWith e (some (.Name x pos')) pos.line X.env = pure false) (hf : X.fn x = true ∨ X.env.scope.names.lookup x = some .local) :
    CPS X cl H0 C0 (.Assign [.Name x pos'] e pos) (sAsg ca (hT (.nm i))) :=
  (ps_set hN hi hx he hs hf).imp fun D σ H ⟨σc, C, Dc, S, h, hq⟩ => ⟨σc, C, _, S, h, fun d C1 v H1 ⟨σ', e1, h1⟩ rv R1 k1 => by
    cases e1
    exact hq.nx _ _ _ _ h1 ((S.s.keep S.r k1).set rv i) R1 k1⟩
theorem swap_cell {x : Str} {p : Pos} {elt : Expr} {gs : List Comprehension} {scope : Scope} {pos : Pos} {l : Nat} {env : Env} (h : ¬ env.scope.names.lookup x = some .local) : swapsWith (.ListComp elt gs scope pos) (some (.Name x p)) l env = pure false := by
  have e : (env.kindOf x == some .local) = false := by
    cases q : env.kindOf x == some NameKind.local with
    | false => rfl
    | true => exact absurd (show env.scope.names.lookup x = some .local from eq_of_beq q) h
  unfold swapsWith
  simp only [e, Bool.and_false, Bool.false_and]
theorem swapped_two {env : Env} {x y : Str} {px py pt : Pos} {kt k2 : Nat} {pt2 : Pos} {a b : Expr} (hk : env.scope.kind = .function) (hx : env.scope.names.lookup x = some .local) (hy : env.scope.names.lookup y = some .local) (ha : notStar a = true) (hb : notStar b = true) (hl : (px.line == py.line) = true) (hne : x ≠ y)
    (hf : (foldedForSure 8 a && foldedForSure 8 b) = false) (hc : (constantsAlone 8 a && constantsAlone 8 b) = false) : swappedStores [.Tuple [.Name x px, .Name y py] kt pt] (.Tuple [a, b] k2 pt2) env = pure (some [x, y]) := by
  have hb' : (env.blockKind != .function) = false := by unfold Env.blockKind; rw [hk]; rfl
  have kx : (env.kindOf x == some .local) = true := by rw [show env.kindOf x = some .local from hx]; rfl
  have ky : (env.kindOf y == some .local) = true := by rw [show env.kindOf y = some .local from hy]; rfl
  have hst : ([a, b].any fun | .Starred .. => true | _ => false) = false := by
    refine List.any_eq_false.mpr fun e he => ?_
    have hn : notStar e = true := by
      rcases List.mem_cons.mp he with h | he
      · rw [h]; exact ha
      · rw [List.mem_singleton.mp he]; exact hb
    cases e <;> first | (cases hn; done) | exact Bool.false_ne_true
  have hxy : (x == y) = false := by simpa using hne
  have hyx : (y == x) = false := by simpa using hne.symm
  have hl2 : (py.line == px.line) = true := by
    have := eq_of_beq hl
    rw [this]; simp
  have hdup : ([x, y].eraseDups).length = 2 := by
    simp [List.eraseDups, List.eraseDupsBy, List.eraseDupsBy.loop, hxy, hyx]
  unfold swappedStores
  simp only [hb', hst, kx, ky, hl2, List.length_cons, List.length_nil, List.all_cons, List.all_nil, Bool.and_true, hf, hc, List.head?_cons, Option.map_some, Option.getD_some, Expr.pos, List.filterMap_cons, List.filterMap_nil, beq_self_eq_true, Bool.true_and, if_true]
  simp only [hdup, bne_self_eq_false, Bool.false_eq_true, if_false, Bool.or_self, Bool.not_true, beq_self_eq_true]
  simp
  intro hh
  exfalso
  rcases hh with hh | hh
  · cases a <;> first | (cases ha; done) | (cases hh; done)
  · cases b <;> first | (cases hb; done) | (cases hh; done)
theorem swapped_none_s {o i e : Expr} {p : Pos} {env : Env} : swappedStores [.Subscript o i p] e env = pure none := by
  unfold swappedStores
  cases e <;> rfl
theorem PSet.or {X : Cx} {r r' : TSet} (h : PSet X r) (h' : PSet X r') : PSet X (fun o i v H Q => r o i v H Q ∨ r' o i v H Q) := fun pins s σ H o i v ov iv u Q I ro ri rv q =>
  q.elim (fun q => h pins s σ H o i v ov iv u Q I ro ri rv q) fun q => h' pins s σ H o i v ov iv u Q I ro ri rv q
theorem LkSet.or {r r' : TSet} {f f' : O3} (h : LkSet K cl r f) (h' : LkSet K cl r' f') : LkSet K cl (fun o i v H Q => r o i v H Q ∨ r' o i v H Q) (fun x y z C Q => f x y z C Q ∨ f' x y z C Q) := fun H C d e z v u w Q Qc rd re rz R q hq =>
  q.elim (fun q => .inl (h H C d e z v u w Q Qc rd re rz R q hq)) fun q => .inr (h' H C d e z v u w Q Qc rd re rz R q hq)
theorem cps_aug {X : Cx} {H0 : Hp} {C0 : CH} {i : Nat} {x : Str} {e : Expr} {op : Operator} {r : TIp} {o : O2} {ca : CTE} {pos pos' : Pos} (hN : X.N.Nodup) (hi : X.N[i]? = some x) (hx : L2.Loc X.env.scope x) (he : CPE X cl H0 C0 e ca) (ho : PIp X op r) (l : Lk2 X.K cl r o) (hf : X.fn x = true ∨ X.env.scope.names.lookup x = some .local) :
    CPS X cl H0 C0 (.AugAssign (.Name x pos') op e pos) (sAug i o ca) :=
  (ps_aug hN hi hx he ho hf).imp fun D σ H ⟨σc, C, Dc, S, ⟨d, e1, h⟩, hq⟩ => by
    obtain ⟨v, e2, rv⟩ := S.s.get e1
    exact ⟨v, e2, σc, C, _, S, h, fun z C1 u H1 h1 ru R1 k1 => l H1 C1 d z v u _ _ (rv.keep S.r k1) ru R1 h1 fun w' C2 wv H2 h2 rw' R2 k2 => hq.nx _ _ _ _ h2 ((((S.s.keep S.r k1)).keep R1 k2).set rw' i) R2 (k1.trans k2)⟩
theorem oAug_ok {X : Cx} (o : OpB) (h : o = .add ∨ o = .sub) : ∃ r, PIp X (opN o) r ∧ Lk2 X.K cl r (oAug o) := by
  rcases h with h | h
  · subst h
    refine ⟨fun x y H Q => ipI (fun i j => i + j) x y H Q ∨ (∃ i j, x = .str i ∧ y = .str j ∧ i.length + j.length ≤ sizeLine ∧ Q (.str (i ++ j)) H), fun pins s σ H x y v u Q I rx ry q => q.elim (fun q => ip_add pins s σ H x y v u Q I rx ry q) fun q => iop_add_str pins s σ H x y v u Q I rx ry q, fun H C d e v u Q Qc rd re R h hq => ?_⟩
    cases d with
    | int i =>
      cases e with
      | int j => cases rd; cases re; exact .inl ⟨i, j, rfl, rfl, hq.now h (.int _) R⟩
      | _ => exact h.elim
    | str i =>
      cases e with
      | str j => cases rd; cases re; exact .inr ⟨i, j, rfl, rfl, h.1, hq.now h.2 (.str _) R⟩
      | _ => exact h.elim
    | _ => exact h.elim
  · subst h
    refine ⟨_, ip_sub, fun H C d e v u Q Qc rd re R h hq => ?_⟩
    cases d with
    | int i =>
      cases e with
      | int j => cases rd; cases re; exact ⟨i, j, rfl, rfl, hq.now h.2 (.int _) R⟩
      | _ => exact h.elim
    | _ => exact h.elim
theorem suite_sound {X : Cx} {sc : Scope} {H0 : Hp} {C0 : CH} (nd : N.Nodup) (hN : X.N = N) (hsc : X.env.scope = sc) {s : Stmt} {c : CS} (h : chkSuite N sc s c = true) : CPS X cl H0 C0 s (rdS G (fun _ _ _ => False) c) := by
  unfold chkSuite at h
  split at h
  · simp only [Bool.and_eq_true, decide_eq_true_eq] at h
    obtain ⟨⟨h1, h2⟩, h3⟩ := h
    split at h1
    · obtain ⟨a1, a2, a3, a4⟩ := nmV_ok h1
      exact cps_setT (by rw [hN]; exact nd) (by rw [hN]; exact h2) (.inl (by rw [hsc]; exact h3)) (cpe_var (by rw [hN]; exact a1) (by rw [hsc]; exact a2) a3 a4) (swap_none rfl) (.inr (by rw [hsc]; exact h3))
    · cases h1
  · simp only [Bool.and_eq_true, decide_eq_true_eq] at h
    obtain ⟨⟨h1, h2⟩, h3⟩ := h
    split at h1
    · exact cps_setT (by rw [hN]; exact nd) (by rw [hN]; exact h2) (.inl (by rw [hsc]; exact h3)) cpe_non (swap_none rfl) (.inr (by rw [hsc]; exact h3))
    · rw [eq_of_beq h1]; exact cps_setT (by rw [hN]; exact nd) (by rw [hN]; exact h2) (.inl (by rw [hsc]; exact h3)) cpe_bl (swap_none rfl) (.inr (by rw [hsc]; exact h3))
    · rw [of_decide_eq_true h1]; exact cps_setT (by rw [hN]; exact nd) (by rw [hN]; exact h2) (.inl (by rw [hsc]; exact h3)) cpe_str (swap_none rfl) (.inr (by rw [hsc]; exact h3))
    · cases h1
  · split at h
    · exact cps_ret cpe_non
    · rw [eq_of_beq h]; exact cps_ret cpe_bl
    · rw [of_decide_eq_true h]; exact cps_ret cpe_str
    · cases h
  · exact cps_pass
  · exact cps_cont
  · cases h
theorem chkS_sound (F : Facts T P w K mg base cl G n) : ∀ fuel sc s c, chkS T N fuel sc s c = true → SndS P w K mg base cl G n N sc s c
  | 0, sc, s, c => fun h => by simp [chkS] at h
  | fuel + 1, sc, s, c => fun h X H0 C0 ex ok tk => by
    have go : ∀ {e c}, chkE T N fuel sc e c = true → CPE X cl H0 C0 e (rdE G ex c) := fun h => (chk_sound F fuel sc _ _).1 h true X H0 C0 ex ok tk
    have goT : ∀ {e c}, chkT T N fuel sc e c = true → CPT X cl H0 C0 e (rdT G ex c) := fun h => (chk_sound F fuel sc _ _).2 h true X H0 C0 ex ok tk
    have ih : ∀ s c, chkS T N fuel sc s c = true → CPS X cl H0 C0 s (rdS G ex c) := fun s c h => chkS_sound F fuel sc s c h X H0 C0 ex ok tk
    have nd : X.N.Nodup := by rw [ok.N_]; exact ok.nd
    cases c with
    | pass => simp only [chkS] at h; split at h <;> first | exact cps_pass | cases h
    | cont => simp only [chkS] at h; split at h <;> first | exact cps_cont | cases h
    | expr c =>
      simp only [chkS] at h
      split at h
      · simp only [Bool.and_eq_true] at h
        exact cps_expr (go h.1) (swap_none h.2)
      · cases h
    | ret c =>
      simp only [chkS] at h
      split at h
      · exact cps_ret (go h)
      · cases h
    | ifS t a b =>
      simp only [chkS] at h
      split at h
      · simp only [Bool.and_eq_true] at h
        obtain ⟨⟨h1, h2⟩, h3⟩ := h
        exact cps_if (goT h1) (snd_ss (sc := sc) ih h2) (snd_ss (sc := sc) ih h3)
      · cases h
    | asg T' c =>
      cases T' with
      | nm i =>
        simp only [chkS] at h
        split at h
        · rename_i x xp e p
          simp only [Bool.and_eq_true, Bool.or_eq_true] at h
          obtain ⟨⟨h1, h2⟩, h3⟩ := h
          obtain ⟨g1, g2⟩ := nmL_ok h1
          have hx : L2.Loc X.env.scope x := by rw [ok.sc_]; exact g2
          have hf : X.fn x = true ∨ X.env.scope.names.lookup x = some .local := by rw [ok.sc_]; exact ok.loc rfl x g2
          have hi : X.N[i]? = some x := by rw [ok.N_]; exact g1
          rcases h3 with h3 | h3
          · exact cps_setT nd hi hx (go h2) (swap_none h3) hf
          · split at h3
            · rename_i elt g0 scope cp
              by_cases hloc : sc.names.lookup x = some .local
              · rw [hloc] at h3
                simp only [Bool.and_eq_true, Bool.not_eq_true'] at h3
                obtain ⟨l1, l2⟩ := h3
                obtain ⟨tg, iter, ifs', asy⟩ := g0
                cases fuel with
                | zero => simp [chkE] at h2
                | succ fuel =>
                  cases c with
                  | lc c T' vs k it ifs =>
                    simp only [chkE, Bool.and_eq_true, decide_eq_true_eq] at h2
                    obtain ⟨⟨⟨⟨⟨⟨⟨⟨⟨h1, h2⟩, h3⟩, h4⟩, h5⟩, h6⟩, h7⟩, h8⟩, h9⟩, h10⟩ := h2
                    subst h1
                    have hnl := noLam F h10
                    obtain ⟨I1, I2⟩ := snd_it (tg := tg) F ok tk (fun e c => (chk_sound F fuel sc e c).1) h6
                    have hk : scope.kind = .function := by
                      unfold blkC at h2
                      simp only [Bool.and_eq_true] at h2
                      have := h2.1.1.1
                      split at this
                      · assumption
                      · cases this
                    have ev : ((tgNs tg).zip T'.slots).map (·.2) = T'.slots := by
                      rw [List.map_snd_zip]
                      omega
                    have q := cps_setLc (X := X) (cl := cl) (H0 := H0) (C0 := C0) (pos := cp) (spos := p) (own := (tgNs tg).zip T'.slots) (T := T') (scope := scope) ok.calm nd hi (by rw [ok.sc_]; exact hloc) (sw_true (by rw [ok.sc_]; exact ok.kind) (by rw [ok.sc_]; exact hloc) l1 l2) I1 (by rw [ok.N_, ok.sc_]; exact blkOk_by h2) (by rw [ev]; exact fun i hi => hi)
                      (fun s H C cs fp => by rw [ok.K_]; exact blk_tg ok h5) (fun s H C cs fp => snd_ifs (blk_ok ok hk hnl) takes_bot (fun e c => (chk_sound F fuel (relS scope sc) e c).2) h7)
                      (fun s H C cs fp => (chk_sound F fuel (relS scope sc) _ _).1 h8 _ _ H0 C0 _ (blk_ok ok hk hnl) takes_bot) (notSet_fold h9)
                    rw [ev] at q
                    rw [h3]
                    exact q
                  | _ => simp [chkE, notComp] at h2
              · exact cps_setT nd hi hx (go h2) (swap_cell (by rw [ok.sc_]; exact hloc)) hf
            · cases h3
        · cases h
      | tp is =>
        simp only [chkS] at h
        split at h
        · simp only [Bool.and_eq_true] at h
          obtain ⟨⟨⟨h1, h2⟩, h3⟩, h4⟩ := h
          obtain ⟨g1, g2⟩ := top_tg ok h1
          exact cps_asg (go h2) (cpg_T g1) (sole_none h3) (swapped_none2 (by rw [ok.sc_]; exact h4)) g2
        · cases h
    | par i j a b =>
      simp only [chkS] at h
      split at h
      · simp only [Bool.and_eq_true, decide_eq_true_eq, Bool.not_eq_true'] at h
        obtain ⟨⟨⟨⟨⟨⟨⟨⟨⟨⟨⟨⟨h1, h2⟩, h3⟩, h4⟩, h5⟩, h6⟩, h7⟩, h8⟩, h9⟩, h10⟩, h11⟩, h12⟩, h13⟩ := h
        rw [← ok.N_] at h1 h2
        rw [← ok.sc_] at h4 h5
        exact cps_par ok.calm nd h1 h2 h3 h4 h5 (cpa_cons (go h6) (cpa_cons (go h7) cpa_nil (star_of h9)) (star_of h8)) (swapped_two (by rw [ok.sc_]; exact ok.kind) h4 h5 h8 h9 h10 h13 h11 h12) rfl
      · cases h
    | par3 i j l a b c =>
      simp only [chkS] at h
      split at h
      · simp only [Bool.and_eq_true, decide_eq_true_eq, Bool.not_eq_true'] at h
        obtain ⟨⟨⟨⟨⟨⟨⟨⟨⟨⟨⟨⟨⟨⟨⟨⟨⟨⟨⟨⟨⟨h1, h2⟩, h3⟩, e1⟩, e2⟩, e3⟩, l1⟩, l2⟩, l3⟩, c1⟩, c2⟩, c3⟩, s1⟩, s2⟩, s3⟩, p1⟩, p2⟩, f1⟩, f2⟩, n1⟩, n2⟩, n3⟩ := h
        rw [← ok.N_] at h1 h2 h3
        rw [← ok.sc_] at l1 l2 l3
        exact cps_par3 ok.calm nd h1 h2 h3 e1 e2 e3 l1 l2 l3 (cpa_cons (go c1) (cpa_cons (go c2) (cpa_cons (go c3) cpa_nil (star_of s3)) (star_of s2)) (star_of s1)) (swapped_three (by rw [ok.sc_]; exact ok.kind) l1 l2 l3 s1 s2 s3 p1 p2 n1 n2 n3 f1 f2) rfl
      · cases h
    | setI o i c =>
      simp only [chkS] at h
      split at h
      · rename_i xo yi ps es pp
        simp only [Bool.and_eq_true] at h
        obtain ⟨⟨⟨h1, h2⟩, h3⟩, h5⟩ := h
        exact cps_sub (go h1) (go h2) (go h3) (PSet.or set_list (set_dict (hu_of ok.room))) (LkSet.or lk_setL lk_setD) (fun v => by cases yi <;> first | rfl | (cases h5; done)) sole_sub (swapped_none_s) rfl
      · cases h
    | never => exact cps_never
    | augN i o c =>
      simp only [chkS] at h
      split at h
      · simp only [Bool.and_eq_true, decide_eq_true_eq, Bool.or_eq_true] at h
        obtain ⟨⟨⟨h1, h2⟩, h3⟩, h4⟩ := h
        subst h2
        obtain ⟨g1, g2⟩ := nmL_ok h1
        obtain ⟨r, r1, r2⟩ := oAug_ok (X := X) (cl := cl) o h3
        exact cps_aug nd (by rw [ok.N_]; exact g1) (by rw [ok.sc_]; exact g2) (go h4) r1 r2 (by rw [ok.sc_]; exact ok.loc rfl _ g2)
      · cases h
    | forS T' k it body =>
      simp only [chkS] at h
      split at h
      · simp only [Bool.and_eq_true] at h
        obtain ⟨⟨⟨h1, h2⟩, h3⟩, h4⟩ := h
        obtain ⟨g1, g2⟩ := top_tg ok h1
        exact cps_for ok.po ok.calm (snd_it F ok tk (fun e c => (chk_sound F fuel sc e c).1) h2).1 (cpg_T g1) (snd_ss (sc := sc) ih h4) (notSet_fold h3)
      · cases h
    | whileS t body =>
      simp only [chkS] at h
      split at h
      · simp only [Bool.and_eq_true] at h
        exact cps_while ok.po (goT h.1) (snd_ss (sc := sc) ih h.2)
      · cases h
    | raise c =>
      simp only [chkS] at h
      split at h
      · simp only [Bool.and_eq_true, decide_eq_true_eq] at h
        obtain ⟨⟨h1, h2⟩, h3⟩ := h
        obtain ⟨g1, g2⟩ := glN_ok ok.sc_ h1
        obtain ⟨Ca, c1, c2⟩ := F.cls _ _ h2
        obtain ⟨e1, e2, e3, e4⟩ := F.exc c Ca h3 c1
        rw [← ok.K_] at e1 e2 e3 e4
        rw [← ok.mg_] at c2
        exact cps_raise c1 PySem.F.excBase_ValueError e1 c2 e2 (raises_own e3 e4) g1 g2 ok.calm (by rw [ok.K_]; exact tk)
      · cases h
    | tryK cs i body suite rest t ie => simp [chkS] at h
    | tryL cs i lf suite rest is => simp [chkS] at h
end
end L3
namespace L3
open PySem L2
theorem anyKit_at {K : PySem.W.Frag} {cl : ClsT} {kit : String ⊕ Nat → String ⊕ Nat → Option Bool} {t : String ⊕ Nat} {vt : Value} (hk : ∀ u b, kit t u = some b → ∃ vu, tyVal cl u = some vu ∧ PySem.W.kitOne K vt vu = some b) : ∀ {us : List (String ⊕ Nat)} {ws : List Value} {b : Bool}, us.map (tyVal cl) = ws.map some → anyKit kit t us = some b → PySem.W.kitAny K vt ws = some b
  | [], [], b, _, h => by cases h; exact kitAny_nil
  | [], _ :: _, _, e, _ => by cases e
  | _ :: _, [], _, e, _ => by cases e
  | u :: us, w :: ws, b, e, h => by
    rw [List.map_cons, List.map_cons] at e
    injection e with e1 e2
    unfold anyKit at h
    cases q : kit t u with
    | none => rw [q] at h; cases h
    | some c =>
      rw [q] at h
      obtain ⟨vu, h1, h2⟩ := hk u c q
      rw [e1] at h1
      cases h1
      cases c with
      | true => cases h; exact kitAny_cons h2 (fun z => by cases z) fun _ => rfl
      | false => exact kitAny_cons h2 (fun _ => anyKit_at hk e2 h) fun z => by cases z
section
variable {X : Cx} {cl : ClsT} {H0 : Hp} {C0 : CH}
noncomputable def rIsPT (K : PySem.W.Frag) (Da a : Addr) : List V → Hp → VK → Prop := fun xs H Q =>
  ∃ (tp : Addr) (cs : List V) (us : List Value) (b : Bool), xs = [.ref a, .ref tp] ∧ H tp = some (.tup cs) ∧ Paired ClsV cs us ∧ PySem.W.kitAny K (.ref Da) us = some b ∧ Q (.bl b) H
theorem call_isPT {a Da : Addr} {oe : Obj} (hp : (a, oe) ∈ X.pn) (C : ExcC X.K Da) (hz : Zc (.ref Da) none oe) (hf : ∃ vs, oe.data = .fields vs) : CallR X (.builtin "isinstance") (rIsPT X.K Da a) := by
  intro pins s σ H xs us Q I r ⟨tp, cs, ws, b, ex, hT, k, e, q⟩
  subst ex
  obtain ⟨u1, u2, rfl, r1, r2⟩ := vals2 r
  cases (show u2 = Value.ref tp from r2)
  cases (show u1 = Value.ref a from r1)
  have at_ := (I.pin (a, oe) (List.mem_append_left _ hp)).1
  obtain ⟨vs, hv⟩ := hf
  have J : PySem.W.InstAt s.heap a oe Da none := by
    obtain ⟨k1, k2, k3, k4⟩ := oe
    obtain ⟨h1, h2⟩ := hz
    dsimp only at h1 h2 hv
    subst h1 h2 hv
    exact ⟨at_, rfl, rfl, trivial⟩
  obtain ⟨_, its, rv, o, h1, h2, n, h3⟩ := (show ObjOk X.prog X.w H s.heap tp (.tup cs) from I.hok tp _ hT)
  have e3 := ClsV.all k rv
  subst e3
  obtain ⟨oc, od, dt, sl⟩ := o
  simp only at h2 h3
  subst h2 h3
  exact PySem.W.kia_tup (PySem.W.handS_kitx_exc C.hg C.hk C.hs C.hd C.ha C.hn C.ht C.hm) I.kIn J h1 e
    (fun z => nomatch z) fun tk => ⟨.bl b, H, I.kept (t' := tk) fun _ _ z => z, rfl, q⟩
theorem cpe_isxT {ans : List (Nat × Bool)} {us : List (String ⊕ Nat)} {e : Expr} {zs : List Expr} {p tp pos : Pos} {kk : Nat} {vs : List V} {ws : List Value} {kit : String ⊕ Nat → String ⊕ Nat → Option Bool} {j : Nat} {a Da : Addr} {cc : Nat} {oe : Obj} (hans : ∀ b, ans.lookup cc = some b → anyKit kit (.inr cc) us = some b)
    (hkit : ∀ u b, kit (.inr cc) u = some b → ∃ vu, tyVal cl u = some vu ∧ PySem.W.kitOne X.K (.ref Da) vu = some b)
    (hp : (a, oe) ∈ X.pn) (C : ExcC X.K Da) (hz : Zc (.ref Da) none oe) (hfl : ∃ vs, oe.data = .fields vs) (he : CPE X cl H0 C0 e (cVar j)) (L : ClsL X cl zs us vs ws) (hl : zs.length ≤ 30) (hg : Gl X "isinstance") (hm : X.mg "isinstance" = none)
    (h1 : notStar e = true) : CPE X cl H0 C0 (.Call (.Name "isinstance" p) [e, .Tuple zs kk tp] [] pos) (cIsx ans j a cc) :=
  (pe_callB (call_isPT hp C hz hfl) hg hm (by decide +kernel) (pa_cons he (pa_cons (pe_tup L.pa) pa_nil (star_of rfl)) (star_of h1)) (by decide) (by decide) (star_of h1) (star_any (by simp [notStar, h1]))).imp fun σ H Q ⟨σc, C1, Qc, S, ⟨ha, b, hb, q⟩, hq⟩ =>
    ⟨σc, C1, fun d C2 => d = .ref a ∧ C2 = C1, S, ⟨_, ha, rfl, rfl⟩, fun d C2 v H1 ⟨hd, hC⟩ rv R1 k1 => by
      subst hd; subst hC
      cases rv
      refine ⟨by rw [L.len]; exact Nat.le_trans hl (by decide), fun q1 hq1 => ?_⟩
      have R2 := R1.newH hq1 (.tup vs)
      have k2 := keep_newH hq1 (.tup vs) R1
      exact ⟨q1, vs, ws, b, rfl, upd_same, L.paired, anyKit_at hkit L.maps (hans b hb), ((hq.from_ k1).from_ k2).now q (.bl b) R2⟩⟩
end
end L3
namespace L3
open PySem L2
section
variable {P : Program} {w : World} {K : PySem.W.Frag} {mg : Str → Option Value} {base : Heap} {cl : ClsT} {G : G3} {n : Nat} {N : List Str} {T : Tab} {sc : Scope}
theorem XOk.pin {top : Bool} {X : Cx} (ok : XOk P w K mg base cl.tb n N sc top X) (a : Addr) (oe : Obj) : XOk P w K mg base cl.tb n N sc top (pinX X a oe) :=
  ⟨ok.P_, ok.w_, ok.K_, ok.mg_, ok.base_, ok.N_, ok.nd, ok.sc_, ok.kind, ok.calm, ok.room, ok.loc, ok.po, ok.gd, ok.fr, ok.tab⟩
theorem takes_pin {X : Cx} {W : WX} (t : Takes X W) (a : Addr) (oe : Obj) : Takes (pinX X a oe) W := fun u s' ⟨a', B, sI, pins, σ, H, cls, d, e, I, r⟩ =>
  t u s' ⟨a', B, sI, pins, σ, H, cls, d, e, unpin (⟨I.ok.mod, I.ok.kind, I.ok.glob, I.ok.blt, I.ok.above, I.ok.inj, I.ok.has, I.ok.cab, I.ok.hd, I.ok.frames, I.ok.stk, I.ok.exf, I.ok.bs, I.ok.bsz, I.ok.noex, I.ok.exfs, I.ok.funs, I.ok.frf⟩ : X.Ok) I, r⟩
theorem cpss_one {X : Cx} {H0 : Hp} {C0 : CH} {s : Stmt} {c : CTS} (h : CPS X cl H0 C0 s c) : CPSs X cl H0 C0 [s] c := pss_one h
theorem cpss_false {X : Cx} {H0 : Hp} {C0 : CH} (ss : List Stmt) : CPSs X cl H0 C0 ss (fun _ _ _ => False) := ⟨fun pins s σ H D I ⟨σc, C, Dc, S, h, hq⟩ => h.elim⟩
theorem lookup_memx : ∀ {ans : List (Nat × Bool)} {c : Nat} {b : Bool}, ans.lookup c = some b → (c, b) ∈ ans
  | (d, e) :: r, c, b, h => by
    rw [List.lookup_cons] at h
    split at h
    · rename_i q
      cases h
      rw [beq_iff_eq.mp q]
      exact List.mem_cons_self
    · exact List.mem_cons_of_mem _ (lookup_memx h)
section
variable (F : Facts T P w K mg base cl G n)
include F
theorem isx_sound {X : Cx} {H0 : Hp} {C0 : CH} {ex : Kxs} (ok : XOk P w K mg base cl.tb n N sc true X) {a cc : Nat} {oe : Obj} {Ca : Addr} (hcc : cl cc = some Ca) (hx : T.xcl cc = true) (hp : (a, oe) ∈ X.pn) (hz : Zc (.ref Ca) none oe) (hf : ∃ vs, oe.data = .fields vs) {e : Expr} {ans : List (Nat × Bool)} {u : String ⊕ Nat} {j : Nat} (h : chkIsx T N sc e ans u j = true) :
    CPE X cl H0 C0 e (cIsx ans j a cc) := by
  unfold chkIsx at h
  split at h
  · rename_i x p0 m pm z pos0
    simp only [Bool.and_eq_true, decide_eq_true_eq] at h
    obtain ⟨⟨⟨⟨⟨h0, h1⟩, h2⟩, h3⟩, h4⟩, h5⟩ := h
    subst h1
    obtain ⟨g1, g2⟩ := glN_ok ok.sc_ h2
    have hm := F.blt _ h3
    rw [← ok.mg_] at hm
    obtain ⟨n1, n2, n3, n4⟩ := nmV_ok h4
    have he : CPE X cl H0 C0 (.Name m pm) (cVar j) := cpe_var (by rw [ok.N_]; exact n1) (by rw [ok.sc_]; exact n2) n3 n4
    have hE := F.xcl cc Ca hx hcc
    have hkit : ∀ b, ans.lookup cc = some b → ∃ vu, tyVal cl u = some vu ∧ PySem.W.kitOne K (.ref Ca) vu = some b := fun b hb => F.xkit cc u b Ca (of_decide_eq_true (List.all_eq_true.mp h0 (cc, b) (lookup_memx hb))) hcc
    unfold isiC at h5
    split at h5
    · rename_i x' p'
      simp only [Bool.and_eq_true] at h5
      obtain ⟨⟨k1, k2⟩, k3⟩ := h5
      obtain ⟨g3, g4⟩ := glN_ok ok.sc_ k1
      obtain ⟨rfl, rfl, rfl, rfl, rfl⟩ := (⟨ok.P_, ok.w_, ok.K_, ok.mg_, ok.base_⟩ : X.prog = P ∧ X.w = w ∧ X.K = K ∧ X.mg = mg ∧ X.base = base)
      split at k3
      · rename_i nm
        simp only [Bool.and_eq_true, decide_eq_true_eq, Bool.not_eq_true', decide_eq_false_iff_not] at k3
        obtain ⟨⟨l1, l2⟩, l3⟩ := k3
        exact cpe_isx (vc := .ty nm) hkit hp hE hz hf he (pe_bltn g3 (F.blt _ l1) l2 rfl l3 g4) (fun w' hw => by cases hw; exact .ty nm) g1 hm rfl k2
      · rename_i kc
        have l1 := of_decide_eq_true k3
        obtain ⟨Cb, c1, c2⟩ := F.cls _ _ l1
        exact cpe_isx (vc := .ref Cb) hkit hp hE hz hf he (pe_glob g3 c2 rfl g4) (fun w' hw => by
          have hw' : (cl kc).map Value.ref = some w' := hw
          rw [c1] at hw'
          cases hw'
          exact .own Cb) g1 hm rfl k2
    · cases h5
  · cases h
theorem isxT_sound {X : Cx} {H0 : Hp} {C0 : CH} {ex : Kxs} (ok : XOk P w K mg base cl.tb n N sc true X) {a cc : Nat} {oe : Obj} {Ca : Addr} (hcc : cl cc = some Ca) (hx : T.xcl cc = true) (hp : (a, oe) ∈ X.pn) (hz : Zc (.ref Ca) none oe) (hf : ∃ vs, oe.data = .fields vs) {e : Expr} {ans : List (Nat × Bool)} {us : List (String ⊕ Nat)} {j : Nat} (h : chkIsxT T N sc e ans us j = true) :
    CPE X cl H0 C0 e (cIsx ans j a cc) := by
  unfold chkIsxT at h
  split at h
  · rename_i x p0 m pm zs kk tp pos0
    simp only [Bool.and_eq_true, decide_eq_true_eq] at h
    obtain ⟨⟨⟨⟨⟨⟨⟨h0, h1⟩, h2⟩, h3⟩, h4⟩, h5⟩, h6⟩, h7⟩ := h
    subst h1
    obtain ⟨g1, g2⟩ := glN_ok ok.sc_ h2
    have hm := F.blt _ h3
    rw [← ok.mg_] at hm
    obtain ⟨n1, n2, n3, n4⟩ := nmV_ok h4
    have he : CPE X cl H0 C0 (.Name m pm) (cVar j) := cpe_var (by rw [ok.N_]; exact n1) (by rw [ok.sc_]; exact n2) n3 n4
    obtain ⟨vs, ws, L⟩ := isiCs_ok F ok h5
    exact cpe_isxT (fun b hb => of_decide_eq_true (List.all_eq_true.mp h0 (cc, b) (lookup_memx hb))) (fun u b hb => by rw [ok.K_]; exact F.xkit cc u b Ca hb hcc) hp (by rw [ok.K_]; exact F.xcl cc Ca hx hcc) hz hf he L h7 g1 hm rfl
  · cases h
theorem chkIT_sound {X : Cx} {H0 : Hp} {C0 : CH} {ex : Kxs} (ok : XOk P w K mg base cl.tb n N sc true X) (tk : Takes X (WC K cl H0 C0 ex)) {a cc : Nat} {oe : Obj} {Ca : Addr} (hcc : cl cc = some Ca) (hx : T.xcl cc = true) (hp : (a, oe) ∈ X.pn) (hz : Zc (.ref Ca) none oe) (hf : ∃ vs, oe.data = .fields vs) {fuel : Nat} :
    ∀ (ie : IE) (e : Expr), chkIT T N fuel sc ie e = true → CPT X cl H0 C0 e (rdIT G ex a cc ie) := by
  intro ie
  induction ie with
  | leaf c => exact fun e h => (chk_sound F fuel sc _ _).2 (by simpa [chkIT] using h) true X H0 C0 ex ok tk
  | isx ans u j =>
    intro e h
    have h' : chkIsx T N sc e ans u j = true := by simpa [chkIT] using h
    have q := isx_sound F (H0 := H0) (C0 := C0) (ex := ex) ok hcc hx hp hz hf h'
    refine cpt_val q ?_
    unfold chkIsx at h'
    split at h'
    · exact fun _ => rfl
    · cases h'
  | and2 x y ihx ihy =>
    intro e h
    simp only [chkIT] at h
    split at h
    · simp only [Bool.and_eq_true] at h
      rename_i p q pos
      exact (cpw_and (ihx p h.1) (cpw_and1 (ihy q h.2))).pt
    · cases h
  | and3 x y z ihx ihy ihz =>
    intro e h
    simp only [chkIT] at h
    split at h
    · simp only [Bool.and_eq_true] at h
      rename_i p q r pos
      exact (cpw_and (ihx p h.1) (cpw_and (ihy q h.2.1) (cpw_and1 (ihz r h.2.2)))).pt
    · cases h
  | or2 x y ihx ihy =>
    intro e h
    simp only [chkIT] at h
    split at h
    · simp only [Bool.and_eq_true] at h
      rename_i p q pos
      exact (cpw_or (ihx p h.1) (cpw_or1 (ihy q h.2))).pt
    · cases h
  | not x ihx =>
    intro e h
    simp only [chkIT] at h
    split at h
    · rename_i p pos
      exact cpt_not (ihx p h)
    · cases h
  | isxT ans us j =>
    intro e h
    have h' : chkIsxT T N sc e ans us j = true := by simpa [chkIT] using h
    have q := isxT_sound F (H0 := H0) (C0 := C0) (ex := ex) ok hcc hx hp hz hf h'
    refine cpt_val q ?_
    unfold chkIsxT at h'
    split at h'
    · exact fun _ => rfl
    · cases h'
  | or3 x y z ihx ihy ihz =>
    intro e h
    simp only [chkIT] at h
    split at h
    · simp only [Bool.and_eq_true] at h
      rename_i p q r pos
      exact (cpw_or (ihx p h.1) (cpw_or (ihy q h.2.1) (cpw_or1 (ihz r h.2.2)))).pt
    · cases h
  | lst3 x y z _ _ _ => intro e h; simp [chkIT] at h
  | ite t x y _ _ _ => intro e h; simp [chkIT] at h
theorem chkI_sound {X : Cx} {H0 : Hp} {C0 : CH} {ex : Kxs} (ok : XOk P w K mg base cl.tb n N sc true X) (tk : Takes X (WC K cl H0 C0 ex)) {a cc : Nat} {oe : Obj} {Ca : Addr} (hcc : cl cc = some Ca) (hx : T.xcl cc = true) (hp : (a, oe) ∈ X.pn) (hz : Zc (.ref Ca) none oe) (hf : ∃ vs, oe.data = .fields vs) {fuel : Nat} :
    ∀ (ie : IE) (e : Expr), chkI T N fuel sc ie e = true → CPE X cl H0 C0 e (rdI G ex a cc ie) := by
  intro ie
  induction ie with
  | leaf c => exact fun e h => (chk_sound F fuel sc _ _).1 (by simpa [chkI] using h) true X H0 C0 ex ok tk
  | isx ans u j => exact fun e h => isx_sound F (H0 := H0) (C0 := C0) (ex := ex) ok hcc hx hp hz hf (by simpa [chkI] using h)
  | isxT ans us j => exact fun e h => isxT_sound F (H0 := H0) (C0 := C0) (ex := ex) ok hcc hx hp hz hf (by simpa [chkI] using h)
  | or3 x y z ihx ihy ihz =>
    intro e h
    simp only [chkI] at h
    split at h
    · simp only [Bool.and_eq_true] at h
      rename_i p q r pos
      exact cpe_or (ihx p h.1) (cpe_or (ihy q h.2.1) (cpe_one (ihz r h.2.2)))
    · cases h
  | lst3 x y z ihx ihy ihz =>
    intro e h
    simp only [chkI] at h
    split at h
    · simp only [Bool.and_eq_true] at h
      rename_i p q r pos
      obtain ⟨⟨⟨n1, n2⟩, n3⟩, h1, h2, h3⟩ := h
      exact cpe_lst (cpa_cons (ihx p h1) (cpa_cons (ihy q h2) (cpa_cons (ihz r h3) cpa_nil (star_of n3)) (star_of n2)) (star_of n1))
    · cases h
  | and2 x y ihx ihy =>
    intro e h
    simp only [chkI] at h
    split at h
    · simp only [Bool.and_eq_true] at h
      rename_i p q pos
      exact cpe_and (ihx p h.1) (cpe_one (ihy q h.2))
    · cases h
  | and3 x y z ihx ihy ihz =>
    intro e h
    simp only [chkI] at h
    split at h
    · simp only [Bool.and_eq_true] at h
      rename_i p q r pos
      exact cpe_and (ihx p h.1) (cpe_and (ihy q h.2.1) (cpe_one (ihz r h.2.2)))
    · cases h
  | or2 x y ihx ihy =>
    intro e h
    simp only [chkI] at h
    split at h
    · simp only [Bool.and_eq_true] at h
      rename_i p q pos
      exact cpe_or (ihx p h.1) (cpe_one (ihy q h.2))
    · cases h
  | not x ihx =>
    intro e h
    simp only [chkI] at h
    split at h
    · rename_i p pos
      exact cpe_not (ihx p h)
    · cases h
  | ite t x y _ ihx ihy =>
    intro e h
    simp only [chkI] at h
    split at h
    · simp only [Bool.and_eq_true] at h
      rename_i z p q pos
      exact cpe_if (chkIT_sound F ok tk hcc hx hp hz hf t z h.1) (ihx p h.2.1) (ihy q h.2.2)
    · cases h
theorem chkIS_sound {X : Cx} {H0 : Hp} {C0 : CH} {ex : Kxs} (ok : XOk P w K mg base cl.tb n N sc true X) (tk : Takes X (WC K cl H0 C0 ex)) {a cc : Nat} {oe : Obj} {Ca : Addr} (hcc : cl cc = some Ca) (hx : T.xcl cc = true) (hp : (a, oe) ∈ X.pn) (hz : Zc (.ref Ca) none oe) (hf : ∃ vs, oe.data = .fields vs) {fuel : Nat} :
    ∀ (is : List IS) (ss : List Stmt), chkIS T N fuel sc is ss = true → CPSs X cl H0 C0 ss (rdIS G ex a cc is) := by
  have nd : X.N.Nodup := by rw [ok.N_]; exact ok.nd
  intro is
  induction is with
  | nil => intro ss h; unfold chkIS at h; cases h
  | cons i0 r ih =>
    intro ss h
    unfold chkIS at h
    split at h
    · rename_i t r' e x0 p0 ss' heq
      cases heq
      simp only [Bool.and_eq_true] at h
      have ht := (chk_sound F fuel sc _ _).2 h.1 true X H0 C0 ex ok tk
      exact cpss_cons (cps_if (pos := p0) ht (cpss_false x0) cpss_nil) (ih _ h.2)
    · rename_i i c r' x xp e p0 ss' heq
      cases heq
      simp only [Bool.and_eq_true] at h
      obtain ⟨⟨⟨h1, h2⟩, h3⟩, h4⟩ := h
      obtain ⟨g1, g2⟩ := nmL_ok h1
      exact cpss_cons (cps_setT nd (by rw [ok.N_]; exact g1) (by rw [ok.sc_]; exact g2) (chkI_sound F ok tk hcc hx hp hz hf c e h2) (swap_none h3) (by rw [ok.sc_]; exact ok.loc rfl _ g2)) (ih _ h4)
    · rename_i t c r' e e2 p2 p0 ss' heq
      cases heq
      simp only [Bool.and_eq_true] at h
      obtain ⟨⟨h1, h2⟩, h3⟩ := h
      exact cpss_cons (cps_if (pos := p0) (chkIT_sound F ok tk hcc hx hp hz hf t e h1) (cpss_cons (cps_ret (pos := p2) ((chk_sound F fuel sc _ _).1 h2 true X H0 C0 ex ok tk)) cpss_nil) cpss_nil) (ih _ h3)
    · rename_i c e p0 heq
      cases heq
      exact cpss_one (cps_ret (pos := p0) (chkI_sound F ok tk hcc hx hp hz hf c e h))
    · cases h
theorem chkLF_sound {X : Cx} {H0 : Hp} {C0 : CH} {ex : Kxs} (ok : XOk P w K mg base cl.tb n N sc true X)
    (act : ∀ (a : Str) (p1 p2 : Pos), X.N[0]? = some a → Vis X.env.scope a → (a == ("__debug__" : Str)) = false → (a == ("__classdict__" : Str)) = false → CPE X cl H0 C0 (.Call (.Name a p1) [] [] p2) (cAct G.act 0 ex)) {lf : LF} {b : List Stmt} (h : chkLF N sc lf b = true) : CPSs X cl H0 C0 b (sLF G ex lf) := by
  have nd : X.N.Nodup := by rw [ok.N_]; exact ok.nd
  have go : ∀ {e : Expr}, chkAct N sc e = true → CPE X cl H0 C0 e (cAct G.act 0 ex) ∧ notComp e = true ∧ notStar e = true := fun {e} h => by
    unfold chkAct at h
    split at h
    · obtain ⟨n1, n2, n3, n4⟩ := nmV_ok h
      exact ⟨act _ _ _ (by rw [ok.N_]; exact n1) (by rw [ok.sc_]; exact n2) n3 n4, rfl, rfl⟩
    · cases h
  unfold chkLF at h
  split at h
  · simp only [Bool.and_eq_true] at h
    obtain ⟨g1, g2⟩ := nmL_ok h.1
    obtain ⟨q1, q2, _⟩ := go h.2
    exact cpss_one (cps_setT nd (by rw [ok.N_]; exact g1) (by rw [ok.sc_]; exact g2) q1 (swap_none q2) (by rw [ok.sc_]; exact ok.loc rfl _ g2))
  · simp only [Bool.and_eq_true] at h
    obtain ⟨g1, g2⟩ := nmL_ok h.1
    obtain ⟨q1, q2, q3⟩ := go h.2
    exact cpss_one (cps_setT nd (by rw [ok.N_]; exact g1) (by rw [ok.sc_]; exact g2) (cpe_lst (cpa_cons q1 cpa_nil (star_of q3))) (swap_none rfl) (by rw [ok.sc_]; exact ok.loc rfl _ g2))
  · obtain ⟨q1, q2, _⟩ := go h
    exact cpss_one (cps_expr q1 (swap_none q2))
  · cases h
theorem chkK_sound {X : Cx} {H0 : Hp} {C0 : CH} {ex : Kxs} (ok : XOk P w K mg base cl.tb n N sc true X) (tk : Takes X (WC K cl H0 C0 ex)) (hact : ActOk X cl G.act H0 C0) {fuel : Nat} {s : Stmt} {r : List Stmt} {c : CS} (h : chkK T N fuel sc s r c = true) : CPSs X cl H0 C0 (s :: r) (rdS G ex c) := by
  have nd : X.N.Nodup := by rw [ok.N_]; exact ok.nd
  cases c with
  | tryK cs i body suite rest t ie =>
    simp only [chkK, Bool.and_eq_true] at h
    obtain ⟨⟨h1, h2⟩, h3⟩ := h
    split at h1
    · simp only [Bool.and_eq_true, decide_eq_true_eq] at h1
      obtain ⟨⟨⟨⟨⟨⟨k1, k2⟩, k3⟩, k4⟩, k5⟩, k6⟩, k7⟩ := h1
      split at h3
      · rename_i e0 x0 p0 e2 p2
        simp only [Bool.and_eq_true] at h3
        obtain ⟨g1, g2⟩ := glN_ok ok.sc_ k1
        obtain ⟨c, c1, c2⟩ := F.tch _ _ k2
        obtain ⟨f1, f2⟩ := ok.fr rfl
        rw [← ok.mg_] at c1
        refine cpss_try_keep (b := fun ex' => rdSs G ex' body) (s := rdSs G (fun _ _ _ => False) suite) (r := rdSs G ex rest) (kk := fun a cc => sCaught G ex cs t ie a cc) f1 f2 nd (by rw [ok.N_]; exact k4) (by show X.env.scope.names.lookup _ = _; rw [ok.sc_]; exact k5) ⟨g1, g2, c1⟩ (by rw [ok.K_]; exact c2) (by rw [ok.K_]; exact tk) (fun pn xe ex' H1 C1 _ tk' po => ?_) (fun a oe pn => ?_) ?_ (fun a oe cc Ca hcc hz hf => ?_)
        · have ok' : XOk P w K mg base cl.tb n N sc true (X.tr pn xe) := ⟨ok.P_, ok.w_, ok.K_, ok.mg_, ok.base_, ok.N_, ok.nd, ok.sc_, ok.kind, ok.calm, ok.room, ok.loc, po, ok.gd, ok.fr, ok.tab⟩
          exact snd_ss (sc := sc) (fun s c h => chkS_sound F fuel sc s c h _ H1 C1 ex' ok' (by rw [← ok.K_]; exact tk')) k6
        · exact snd_ss (X := X.suite a ((a, oe) :: pn)) (sc := sc) (fun s c h => suite_sound (X := X.suite a ((a, oe) :: pn)) ok.nd ok.N_ ok.sc_ h) k7
        · exact snd_ss (sc := sc) (fun s c h => chkS_sound F fuel sc s c h X H0 C0 ex ok tk) h2
        · have okp := ok.pin a oe
          have tkp := takes_pin tk a oe
          by_cases hin : cc ∈ cs
          · have hx : T.xcl cc = true := List.all_eq_true.mp k3 cc hin
            have ht := (chk_sound F fuel sc _ _).2 h3.1 true (pinX X a oe) H0 C0 ex okp tkp
            have hi := chkI_sound F (H0 := H0) (C0 := C0) (ex := ex) okp tkp hcc hx List.mem_cons_self hz hf ie e2 h3.2
            have q := cpss_cons (cps_if (pos := p0) ht (cpss_false x0) cpss_nil) (cpss_one (cps_ret (pos := p2) hi))
            refine q.imp fun D σ H h => ?_
            have e : sCaught G ex cs t ie a cc = sSeq (sIf (rdT G ex t) (fun _ _ _ => False) sNext) (sRet (rdI G ex a cc ie)) := by
              funext D' σ' C'
              simp only [sCaught, hin, decide_true, if_true]
            rw [e] at h
            exact h
          · refine ⟨fun pins s σ H D I ⟨σc, C, Dc, S, h, hq⟩ => ?_⟩
            simp only [sCaught, hin, decide_false, Bool.false_eq_true, if_false] at h
      · cases h3
    · cases h1
  | tryL cs i lf suite rest is =>
    simp only [chkK, Bool.and_eq_true] at h
    obtain ⟨⟨h1, h2⟩, h3⟩ := h
    split at h1
    · simp only [Bool.and_eq_true, decide_eq_true_eq] at h1
      obtain ⟨⟨⟨⟨⟨⟨k1, k2⟩, k3⟩, k4⟩, k5⟩, k6⟩, k7⟩ := h1
      obtain ⟨g1, g2⟩ := glN_ok ok.sc_ k1
      obtain ⟨c, c1, c2⟩ := F.tch _ _ k2
      obtain ⟨f1, f2⟩ := ok.fr rfl
      rw [← ok.mg_] at c1
      refine cpss_try_keep (b := fun ex' => sLF G ex' lf) (s := rdSs G (fun _ _ _ => False) suite) (r := rdSs G ex rest) (kk := fun a cc => sCaughtL G ex cs is a cc) f1 f2 nd (by rw [ok.N_]; exact k4) (by show X.env.scope.names.lookup _ = _; rw [ok.sc_]; exact k5) ⟨g1, g2, c1⟩ (by rw [ok.K_]; exact c2) (by rw [ok.K_]; exact tk) (fun pn xe ex' H1 C1 hk tk' po => ?_) (fun a oe pn => ?_) ?_ (fun a oe cc Ca hcc hz hf => ?_)
      · have ok' : XOk P w K mg base cl.tb n N sc true (X.tr pn xe) := ⟨ok.P_, ok.w_, ok.K_, ok.mg_, ok.base_, ok.N_, ok.nd, ok.sc_, ok.kind, ok.calm, ok.room, ok.loc, po, ok.gd, ok.fr, ok.tab⟩
        exact chkLF_sound F (G := G) ok' (hact pn xe H1 C1 ex' hk tk') k6
      · exact snd_ss (X := X.suite a ((a, oe) :: pn)) (sc := sc) (fun s c h => suite_sound (X := X.suite a ((a, oe) :: pn)) ok.nd ok.N_ ok.sc_ h) k7
      · exact snd_ss (sc := sc) (fun s c h => chkS_sound F fuel sc s c h X H0 C0 ex ok tk) h2
      · have okp := ok.pin a oe
        have tkp := takes_pin tk a oe
        by_cases hin : cc ∈ cs
        · have hx : T.xcl cc = true := List.all_eq_true.mp k3 cc hin
          have q := chkIS_sound F (H0 := H0) (C0 := C0) (ex := ex) okp tkp hcc hx List.mem_cons_self hz hf is _ h3
          refine q.imp fun D σ H h => ?_
          have e : sCaughtL G ex cs is a cc = rdIS G ex a cc is := by
            funext D' σ' C'
            simp only [sCaughtL, hin, decide_true, if_true]
          rw [e] at h
          exact h
        · refine ⟨fun pins s σ H D I ⟨σc, C, Dc, S, h, hq⟩ => ?_⟩
          simp only [sCaughtL, hin, decide_false, Bool.false_eq_true, if_false] at h
    · cases h1
  | _ => simp [chkK] at h
theorem chkTop_sound {X : Cx} {H0 : Hp} {C0 : CH} {ex : Kxs} (ok : XOk P w K mg base cl.tb n N sc true X) (tk : Takes X (WC K cl H0 C0 ex)) (hact : ActOk X cl G.act H0 C0) {fuel : Nat} : ∀ {ss : List Stmt} {cs : List CS}, chkTop T N fuel sc ss cs = true → CPSs X cl H0 C0 ss (rdSs G ex cs)
  | [], [], _ => cpss_nil
  | [], _ :: _, h => by simp [chkTop] at h
  | _ :: _, [], h => by simp [chkTop] at h
  | s :: r, c :: cs, h => by
    unfold chkTop at h
    split at h
    · simp only [Bool.and_eq_true, List.isEmpty_iff] at h
      obtain ⟨h1, h2⟩ := h
      subst h1
      have q := chkK_sound F (H0 := H0) (C0 := C0) (ex := ex) ok tk hact h2
      exact q.imp fun D σ H ⟨σc, C, Dc, S, h, hq⟩ => ⟨σc, C, Dc, S, h, hq⟩
    · simp only [Bool.and_eq_true] at h
      exact cpss_cons (chkS_sound F fuel sc s c h.1 X H0 C0 ex ok tk) (chkTop_sound ok tk hact h.2)
end
end
end L3
namespace L3
open PySem L2
structure FDef where
  np : Nat
  ns : Nat
  body : List CS
noncomputable abbrev Prog3 := List (Nat × FDef)
noncomputable def Prog3.get (p : Prog3) (f : Nat) : Option FDef := (p.find? fun q => q.1 == f).map (·.2)
noncomputable def startN (n : Nat) (ds : List D) : Env3 := ds.map some ++ List.replicate (n - ds.length) none
/-- what is behind a body: what is made meanwhile may be forgotten -/
noncomputable def endN (Q : Kv) : EndsC := { nx := fun _ C' => ∃ C1, Sub C1 C' ∧ Q .non C1, rt := fun d C' => ∃ C1, Sub C1 C' ∧ Q d C1 }
noncomputable def exN (E : Kx) : Kxs := fun y _ C' => ∃ C1, Sub C1 C' ∧ E y C1
/-- the meaning of the defs that call what they are given -/
noncomputable def wpL (p : Prog3) (kit : String ⊕ Nat → String ⊕ Nat → Option Bool) (call make : Nat → SemF) : Nat → SemA → SemF := fun g act ds C Q E => match p.get g with
  | none => False
  | some d => ds.length = d.np ∧ rdSs ⟨call, make, kit, lam0, act, sem0, sem0⟩ (exN E) d.body (endN Q) (startN d.ns ds) C
/-- the meaning of the defs, with n calls one within another -/
noncomputable def wpN (p : Prog3) (kit : String ⊕ Nat → String ⊕ Nat → Option Bool) : Nat → Nat → SemF
  | 0, _ => fun _ _ _ _ => False
  | n + 1, f => fun ds C Q E => match p.get f with
    | none => False
    | some d => ds.length = d.np ∧ rdSs ⟨wpN p kit n, match n with | 0 => fun _ _ _ _ _ => False | m + 1 => wpN p kit m, kit, match n with | 0 => lam0 | m + 1 => (match m with | 0 => lam0 | k + 1 => wpL p kit (wpN p kit k) (match k with | 0 => sem0 | j + 1 => wpN p kit j)), act0, match n with | 0 => sem0 | m + 1 => (match m with | 0 => sem0 | k + 1 => wpN p kit k), match n with | 0 => sem0 | m + 1 => (match m with | 0 => sem0 | k + 1 => (match k with | 0 => sem0 | j + 1 => wpN p kit j))⟩ (exN E) d.body (endN Q) (startN d.ns ds) C
noncomputable def gN (p : Prog3) (kit : String ⊕ Nat → String ⊕ Nat → Option Bool) (n : Nat) : G3 := ⟨wpN p kit n, match n with | 0 => fun _ _ _ _ _ => False | m + 1 => wpN p kit m, kit, match n with | 0 => lam0 | m + 1 => (match m with | 0 => lam0 | k + 1 => wpL p kit (wpN p kit k) (match k with | 0 => sem0 | j + 1 => wpN p kit j)), act0, match n with | 0 => sem0 | m + 1 => (match m with | 0 => sem0 | k + 1 => wpN p kit k), match n with | 0 => sem0 | m + 1 => (match m with | 0 => sem0 | k + 1 => (match k with | 0 => sem0 | j + 1 => wpN p kit j))⟩
set_option smartUnfolding false in
theorem wpN_succ (p : Prog3) (kit : String ⊕ Nat → String ⊕ Nat → Option Bool) (n f : Nat) : wpN p kit (n + 1) f = fun ds C Q E => match p.get f with
    | none => False
    | some d => ds.length = d.np ∧ rdSs (gN p kit n) (exN E) d.body (endN Q) (startN d.ns ds) C := by
  unfold gN
  match n with
  | .zero => rfl
  | .succ .zero => rfl
  | .succ (.succ .zero) => rfl
  | .succ (.succ (.succ _)) => with_unfolding_all rfl
/-- the same for the body of a def that calls what it is given -/
noncomputable def gA (p : Prog3) (kit : String ⊕ Nat → String ⊕ Nat → Option Bool) (n : Nat) (act : SemA) : G3 := ⟨wpN p kit n, match n with | 0 => fun _ _ _ _ _ => False | m + 1 => wpN p kit m, kit, lam0, act, sem0, sem0⟩
/-- levels -/
noncomputable abbrev lv (n : Nat) : Nat := n + 10
/-- a def of the law as it stands in the text, and its clean form -/
structure DefT where
  f : Nat
  name : Str
  qual : Str
  stmt : Stmt
  N : List Str
  ps : List Str
  fuel : Nat
/-- a def whose scope is a maker's is known as that maker -/
noncomputable def lamCk (T : Tab) (f : Nat) (names : List (Str × NameKind)) : Bool := match T.lamS names with
  | none => true
  | some j => decide (T.lamM f = some j)
noncomputable def DefT.ok (T : Tab) (p : Prog3) (d : DefT) : Bool := match p.get d.f with
  | none => false
  | some c => chkTop T d.N d.fuel (defScope d.stmt) (defBody d.stmt) c.body && decide (c.np = d.ps.length) && decide (c.ns = d.N.length) &&
    (match (defScope d.stmt).kind with | .function => true | _ => false) && !(defScope d.stmt).isCoroutine && !(defScope d.stmt).isGenerator && decide d.N.Nodup && decide (d.N.take d.ps.length = d.ps) && (d.ps.all fun x => match (defScope d.stmt).names.lookup x with | some .local => true | some .cell => true | _ => false) && ((defScope d.stmt).names.all fun y => match y.2 with | .free => false | _ => true) && lamCk T d.f (defScope d.stmt).names
theorem DefT.scope {T : Tab} {p : Prog3} {d : DefT} (h : d.ok T p = true) : FnScope d.N d.ps (defScope d.stmt) := by
  unfold DefT.ok at h
  split at h
  · cases h
  · simp only [Bool.and_eq_true, decide_eq_true_eq, Bool.not_eq_true', List.all_eq_true] at h
    obtain ⟨⟨⟨⟨⟨⟨⟨⟨⟨⟨h1, h2⟩, h3⟩, h4⟩, h5⟩, h6⟩, h7⟩, h8⟩, h9⟩, h10⟩, _⟩ := h
    refine ⟨?_, h5, h6, h7, h8, fun x hx => ?_, fun y hy z => ?_⟩
    · split at h4 <;> first | assumption | cases h4
    · have := h9 x hx
      split at this <;> first | (left; assumption) | (right; assumption) | cases this
    · have := h10 y hy
      rw [z] at this
      cases this
/-- a def as it stands behind the top -/
structure DefAt (K : PySem.W.Frag) (d : DefT) (a : Addr) (fd : FuncData) : Prop where
  ex : ∃ (oc : Value) (od : Option Addr) (dV kV doc pm : Value) (an : Option Addr) (cdv ct : Value) (osl : Array (Option Value)),
    fd = PySem.W.fnOf d.name d.qual (defArgs d.stmt) (defBody d.stmt) (defScope d.stmt) dV kV doc pm an cdv ct ∧ K.lookup a = some ⟨oc, od, .func fd, osl⟩ ∧ PySem.W.codeIn K cdv d.qual = true
  kp : PySem.W.keepIn K (.ref a) = true
section
variable {T : Tab} {P : Program} {w : World} {K : PySem.W.Frag} {mg : Str → Option Value} {base : Heap} {cl : ClsT} {p : Prog3} {kit : String ⊕ Nat → String ⊕ Nat → Option Bool}
theorem actOk0 {X : Cx} {H : Hp} {C : CH} : ActOk X cl act0 H C := fun pn xe H0 C0 ex _ _ a p1 p2 _ _ _ _ => ⟨fun pins s σ H Q I ⟨σc, C, Qc, S, ⟨d, _, z⟩, hq⟩ => z.elim⟩
/-- one def: from the facts about what it calls (n calls) to its own promise (n + 1 calls) -/
theorem def_step {n : Nat} {d : DefT} {a : Addr} {fd : FuncData} {c : FDef} (F : Facts T P w K mg base cl (gN p kit n) (lv n)) (A : DefAt K d a fd) (hc : p.get d.f = some c) (h : d.ok T p = true) (hlam : ∀ r ∈ cl.tb, r.names = (defScope d.stmt).names → fd.code = .ref r.c ∧ d.qual ++ ".<locals>." ++ "<lambda>" = r.q) (htb : ∀ r ∈ cl.tb, LamX.TabB base mg r.c r.P) : FnOkG P w K mg base (L2.CX P w) (lv n + 1) a fd d.ps (spC K cl c.np (wpN p kit (n + 1) d.f)) := by
  have S := DefT.scope h
  obtain ⟨oc, od, dV, kV, doc, pm, an, cdv, ct, osl, rfl, lk, hcd⟩ := A.ex
  have h' := h
  unfold DefT.ok at h'
  rw [hc] at h'
  simp only [Bool.and_eq_true, decide_eq_true_eq] at h'
  obtain ⟨⟨⟨⟨⟨⟨⟨⟨⟨⟨h1, h2⟩, h3⟩, _⟩, _⟩, _⟩, _⟩, _⟩, _⟩, _⟩, _⟩ := h'
  rw [h2]
  refine fn_ofG lk hcd S (fun vs H Q E ⟨ds, C, Qc, Ec, r, hl, _⟩ => by rw [← r.length, hl]) fun A' outer s H vs Q E hr hgd ⟨ds, C, Qc, Ec, r, hl, R, hs, hq, hx⟩ => ?_
  have ok : XOk P w K mg base cl.tb (lv n) d.N (defScope d.stmt) true (cxOf (L2.CX P w) P w K mg base d.N d.qual (defScope d.stmt) a cdv A' outer s H E) := ⟨rfl, rfl, rfl, rfl, rfl, rfl, S.nd, rfl, S.kind, rfl, hr, fun _ _ _ => .inl rfl, passes_of rfl, hgd, fun _ => ⟨rfl, rfl⟩, fun r hr' e => ⟨(hlam r hr' e).1, htb r hr', (hlam r hr' e).2⟩⟩
  have tk : Takes (cxOf (L2.CX P w) P w K mg base d.N d.qual (defScope d.stmt) a cdv A' outer s H E) (WC K cl H C (exN Ec)) :=
    (takes_of (E := E) rfl rfl rfl rfl).imp fun cls d' σ H' ⟨y, σc, C', ⟨C1, s1, q⟩, xr, S'⟩ => hx y C1 cls d' H' q xr (S'.r.sub s1) (S'.f.sub s1)
  have body := chkTop_sound F (sc := defScope d.stmt) (H0 := H) (C0 := C) (ex := exN Ec) ok tk actOk0 h1
  refine ⟨_, body, startN c.ns ds, C, endN Qc, ⟨?_, R, Keep.refl⟩, ?_, ?_⟩
  · have q := start_rep (N := d.N) r
    unfold start3 at q
    rw [h3]
    exact q
  · have hs' : ds.length = c.np ∧ rdSs (gN p kit n) (exN Ec) c.body (endN Qc) (startN c.ns ds) C := by
      rw [wpN_succ] at hs
      simp only [hc] at hs
      exact hs
    exact hs'.2
  · exact ⟨fun σc' C' σ' H' ⟨C1, s1, q⟩ _ R' k => hq _ _ _ _ q .non (R'.sub s1) (k.sub s1), fun d' C' v H' ⟨C1, s1, q⟩ rv R' k => hq _ _ _ _ q rv (R'.sub s1) (k.sub s1), fun _ _ _ _ z => z.elim, fun _ _ _ _ z => z.elim⟩
/-- one def that calls what it is given -/
theorem lam_step {n : Nat} {d : DefT} {a : Addr} {fd : FuncData} {c : FDef} (F : ∀ act, Facts T P w K mg base cl (gA p kit n act) (lv n)) (A : DefAt K d a fd) (hc : p.get d.f = some c) (h : d.ok T p = true) (hlam : ∀ r ∈ cl.tb, r.names ≠ (defScope d.stmt).names) (hb : BindsC K fd d.ps 1 [] [.pos 0]) (h1p : d.ps.length = 1) :
    LamAt P w K mg base cl (lv n) a (wpL p kit (wpN p kit n) (gA p kit n act0).make d.f) := by
  have S := DefT.scope h
  obtain ⟨oc, od, dV, kV, doc, pm, an, cdv, ct, osl, rfl, lk, hcd⟩ := A.ex
  have h' := h
  unfold DefT.ok at h'
  rw [hc] at h'
  simp only [Bool.and_eq_true, decide_eq_true_eq] at h'
  obtain ⟨⟨⟨⟨⟨⟨⟨⟨⟨⟨h1, h2⟩, h3⟩, _⟩, _⟩, _⟩, _⟩, _⟩, _⟩, _⟩, _⟩ := h'
  refine ⟨d.N, d.qual, defScope d.stmt, cdv, fun A' outer s H C f act Q E Qc Ec hr hgd e0 R hact hs hq hx => ?_⟩
  obtain ⟨gv, gV, b1, b2, b3⟩ := hb
  have inK := e0.mod.kin.keeps fun b o q => (e0.bs b o q).1
  have rr := b3 H [.ref f] [.ref f] [] [] rfl rfl (.cons (.ref f) .nil) .nil
  refine run_ofG (N := d.N) (k := lv n + 1) (us := gv [.ref f] []) (vs := gV [V.ref f] []) lk hcd S hr e0 (b1 s [.ref f] [] inK rfl rfl) (b2 (.cons (show RelV (V.ref f) (Value.ref f) from rfl) .nil) .nil) (by rw [← rr.length, h1p]; rfl) fun hr' => ?_
  have ok : XOk P w K mg base cl.tb (lv n) d.N (defScope d.stmt) true (cxOf (L2.CX P w) P w K mg base d.N d.qual (defScope d.stmt) a cdv A' outer s H E) := ⟨rfl, rfl, rfl, rfl, rfl, rfl, S.nd, rfl, S.kind, rfl, hr'.mono (by omega), fun _ _ _ => .inl rfl, passes_of rfl, hgd, fun _ => ⟨rfl, rfl⟩, fun r hr' e => absurd e (hlam r hr')⟩
  have tk : Takes (cxOf (L2.CX P w) P w K mg base d.N d.qual (defScope d.stmt) a cdv A' outer s H E) (WC K cl H C (exN Ec)) :=
    (takes_of (E := E) rfl rfl rfl rfl).imp fun cls d' σ H' ⟨y, σc, C', ⟨C1, s1, q⟩, xr, S'⟩ => hx y C1 cls d' H' q xr (S'.r.sub s1) (S'.f.sub s1)
  have body := chkTop_sound (F act) (sc := defScope d.stmt) (H0 := H) (C0 := C) (ex := exN Ec) ok tk (hact hr') h1
  refine ⟨_, body, startN c.ns [.ref f], C, endN Qc, ⟨?_, R, Keep.refl⟩, ?_, ?_⟩
  · have q := start_rep (N := d.N) rr
    unfold start3 at q
    rw [h3]
    exact q
  · have hs' : [D.ref f].length = c.np ∧ rdSs (gA p kit n act) (exN Ec) c.body (endN Qc) (startN c.ns [.ref f]) C := by
      unfold wpL at hs
      simp only [hc] at hs
      exact hs
    exact hs'.2
  · exact ⟨fun σc' C' σ' H' ⟨C1, s1, q⟩ _ R' k => hq _ _ _ _ q .non (R'.sub s1) (k.sub s1), fun d' C' v H' ⟨C1, s1, q⟩ rv R' k => hq _ _ _ _ q rv (R'.sub s1) (k.sub s1), fun _ _ _ _ z => z.elim, fun _ _ _ _ z => z.elim⟩
/-- what is known of the law's names, whatever the defs do -/
structure Names3 (T : Tab) (K : PySem.W.Frag) (mg : Str → Option Value) (cl : ClsT) (p : Prog3) (kit : String ⊕ Nat → String ⊕ Nat → Option Bool) (at_ : Nat → Option (DefT × Addr × FuncData)) : Prop where
  defs : ∀ f d a fd, at_ f = some (d, a, fd) → d.f = f ∧ DefAt K d a fd ∧ d.ok T p = true ∧ ∀ m ks np g, T.shape f m ks = some (np, g) → np = d.ps.length ∧ BindsC K fd d.ps m ks g
  fn : ∀ x f, T.fn x = some f → ∃ d a fd, at_ f = some (d, a, fd) ∧ mg x = some (.ref a)
  cls : ∀ x c, T.cls x = some c → ∃ Ca, cl c = some Ca ∧ mg x = some (.ref Ca)
  init : ∀ c f, T.init c = some f → ∃ Ca d a fd, cl c = some Ca ∧ at_ f = some (d, a, fd) ∧ Mk K Ca a
  own : ∀ c f, T.own c = some f → ∃ Ca d a fd, cl c = some Ca ∧ at_ f = some (d, a, fd) ∧ OwnEX K Ca a
  ownL : ∀ c f, T.ownL c = some f → ∃ Ca d a fd, cl c = some Ca ∧ at_ f = some (d, a, fd) ∧ OwnL K Ca a
  ownB : ∀ c f, T.ownB c = some f → ∃ Ca d a fd, cl c = some Ca ∧ at_ f = some (d, a, fd) ∧ OwnB K Ca a
  xcl : ∀ c Ca, T.xcl c = true → cl c = some Ca → ExcC K Ca
  xkit : ∀ c u b Ca, T.xkit c u = some b → cl c = some Ca → ∃ vu, tyVal cl u = some vu ∧ PySem.W.kitOne K (.ref Ca) vu = some b
  mth : ∀ c m f, T.mth c m = some f → ∃ Ca d a fd, cl c = some Ca ∧ at_ f = some (d, a, fd) ∧ Cls K Ca ∧ Meth K Ca m a
  glb : ∀ x d, T.glb x = some d → ∃ u v, mg x = some u ∧ RelV v u ∧ ∀ H, Rep K H d v
  blt : ∀ x, T.blt x = true → mg x = none
  attr : ∀ c f Ca, T.attr c f = true → cl c = some Ca → Cls K Ca ∧ NoAttr K Ca f
  kit_ : KitOk K cl kit
  kitc : ∀ c u b Ca, kit (.inr c) u = some b → cl c = some Ca → ClsOk K Ca
  exc : ∀ c Ca, T.exc c = true → cl c = some Ca → PySem.W.excIn K Ca [.type "ValueError", .type "Exception", .type "BaseException", .type "object"] "ValueError.__new__" = true ∧ PySem.W.keepIn K (.ref Ca) = true ∧ PySem.W.subIn K (.ref Ca) (.type "BaseException") = some true ∧ PySem.W.typeIn K (.ref Ca) = some (.type "type")
  tch : ∀ x cs, T.tch x cs = true → ∃ c, (mg x = some c ∨ (mg x = none ∧ bootBuiltins x = some c ∧ x ≠ "__name__")) ∧ SubOk K cl c fun i => decide (i ∈ cs)
  gdc : ∀ x tab, T.gdc x = some tab → ∃ p, mg x = some (.ref p) ∧ WDct K cl.w p tab ∧ ∃ es m, K.lookup p = some ⟨.type "dict", none, .dict es m, #[]⟩
  lamD : ∀ x g, T.lamD x = some g → ∃ d a fd, at_ g = some (d, a, fd) ∧ mg x = some (.ref a) ∧ BindsC K fd d.ps 1 [] [.pos 0] ∧ d.ps.length = 1 ∧ ∀ r ∈ cl.tb, r.names ≠ (defScope d.stmt).names
  lamS : ∀ l j, T.lamS l = some j → ∃ r, cl.tb[j]? = some r ∧ r.names = l
  lamI : ∀ (j : Nat) (r : LamR), cl.tb[j]? = some r → T.lamS r.names ≠ none
  lamU : ∀ r ∈ cl.tb, ∀ p ∈ cl.tb, p.P = r.P → p.q = r.q
  lamC : ∀ f d a fd, at_ f = some (d, a, fd) → ∀ r ∈ cl.tb, r.names = (defScope d.stmt).names → fd.code = .ref r.c ∧ d.qual ++ ".<locals>." ++ "<lambda>" = r.q
theorem none_at {f : Addr} {fd : FuncData} {ps : List Str} {np : Nat} {g k : Nat} (hl : np = ps.length) : FnOkG P w K mg base (L2.CX P w) k f fd ps (spC K cl np (wpN p kit 0 g)) :=
  ⟨fun vs H Q E ⟨ds, C, Qc, Ec, r, h, _⟩ => by rw [← r.length, h, hl], fun A outer s H args us vs Q E _ _ _ _ _ ⟨_, _, _, _, _, _, _, z, _⟩ => z.elim⟩
theorem np_of {d : DefT} {c : FDef} (hc : p.get d.f = some c) (h : d.ok T p = true) : c.np = d.ps.length := by
  unfold DefT.ok at h
  rw [hc] at h
  simp only [Bool.and_eq_true, decide_eq_true_eq] at h
  exact h.1.1.1.1.1.1.1.1.1.2
theorem lamCk_of {d : DefT} (h : d.ok T p = true) : lamCk T d.f (defScope d.stmt).names = true := by
  unfold DefT.ok at h
  split at h
  · cases h
  · rw [Bool.and_eq_true] at h
    exact h.2
theorem get_of {d : DefT} (h : d.ok T p = true) : ∃ c, p.get d.f = some c := by
  unfold DefT.ok at h
  cases e : p.get d.f with
  | none => rw [e] at h; cases h
  | some c => exact ⟨c, rfl⟩
section
variable {at_ : Nat → Option (DefT × Addr × FuncData)}
/-- all defs, with n calls one within another -/
noncomputable def AllN (P : Program) (w : World) (K : PySem.W.Frag) (mg : Str → Option Value) (base : Heap) (cl : ClsT) (p : Prog3) (kit : String ⊕ Nat → String ⊕ Nat → Option Bool) (at_ : Nat → Option (DefT × Addr × FuncData)) (n : Nat) : Prop := ∀ f d a fd, at_ f = some (d, a, fd) → FnOkG P w K mg base (L2.CX P w) (lv n) a fd d.ps (spC K cl d.ps.length (wpN p kit n f))
theorem factsB_of (hcP : cl.P = P) (hcw : cl.w = w) (M : Names3 T K mg cl p kit at_) (n : Nat) (ih : ∀ m, m ≤ n → AllN P w K mg base cl p kit at_ m) (lam : Nat → SemA → SemF) (act : SemA) (c2 m2 : Nat → SemF) : FactsB T P w K mg base cl ⟨wpN p kit n, (gA p kit n act0).make, kit, lam, act, c2, m2⟩ (lv n) := by
  have atF : ∀ g d a fd, at_ g = some (d, a, fd) → FnAt P w K mg base cl T (wpN p kit n g) (lv n) g a := fun g d a fd hg =>
    ⟨fd, d.ps, d.ps.length, ih n (Nat.le_refl _) g d a fd hg, fun m ks np' gg hs => (M.defs g d a fd hg).2.2.2 m ks np' gg hs⟩
  refine ⟨by (unfold lv; omega), hcP, hcw, fun x f hx => ?_, M.cls, fun c f hf => ?_, fun c f hf => ?_, fun c f hf => ?_, fun c f hf => ?_, M.xcl, M.xkit, fun c m f hf => ?_, M.glb, M.blt, M.attr, M.kit_, M.kitc, M.exc, M.tch, by rw [← hcw]; exact M.gdc, M.lamS, M.lamI, M.lamU⟩
  · obtain ⟨d, a, fd, h1, h2⟩ := M.fn x f hx
    exact ⟨a, h2, (M.defs f d a fd h1).2.1.kp, atF f d a fd h1⟩
  · obtain ⟨Ca, d, a, fd, h1, h2, h3⟩ := M.init c f hf
    refine ⟨Ca, a, h1, h3, fd, d.ps, d.ps.length, ?_, fun m ks np' gg hs => (M.defs f d a fd h2).2.2.2 m ks np' gg hs⟩
    cases n with
    | zero => exact .inl fun _ _ _ _ z => z
    | succ m => exact .inr ⟨lv m, ih m (Nat.le_succ _) f d a fd h2, by (unfold lv; omega)⟩
  · obtain ⟨Ca, d, a, fd, h1, h2, h3⟩ := M.own c f hf
    refine ⟨Ca, a, h1, h3, fd, d.ps, d.ps.length, ?_⟩
    cases n with
    | zero => exact ⟨0, ⟨fun vs H Q E ⟨_, _, _, _, _, _, _, z, _⟩ => z.elim, fun A outer s H args us vs Q E _ _ _ _ _ ⟨_, _, _, _, _, _, _, z, _⟩ => z.elim⟩, by (unfold lv; omega), fun m ks np' gg hs => (M.defs f d a fd h2).2.2.2 m ks np' gg hs⟩
    | succ m => exact ⟨lv m, ih m (Nat.le_succ _) f d a fd h2, by (unfold lv; omega), fun m ks np' gg hs => (M.defs f d a fd h2).2.2.2 m ks np' gg hs⟩
  · obtain ⟨Ca, d, a, fd, h1, h2, h3⟩ := M.ownL c f hf
    refine ⟨Ca, a, h1, h3, fd, d.ps, d.ps.length, ?_⟩
    cases n with
    | zero => exact ⟨0, ⟨fun vs H Q E ⟨_, _, _, _, _, _, _, z, _⟩ => z.elim, fun A outer s H args us vs Q E _ _ _ _ _ ⟨_, _, _, _, _, _, _, z, _⟩ => z.elim⟩, by (unfold lv; omega), fun m ks np' gg hs => (M.defs f d a fd h2).2.2.2 m ks np' gg hs⟩
    | succ m => exact ⟨lv m, ih m (Nat.le_succ _) f d a fd h2, by (unfold lv; omega), fun m ks np' gg hs => (M.defs f d a fd h2).2.2.2 m ks np' gg hs⟩
  · obtain ⟨Ca, d, a, fd, h1, h2, h3⟩ := M.ownB c f hf
    exact ⟨Ca, a, h1, h3, atF f d a fd h2⟩
  · obtain ⟨Ca, d, a, fd, h1, h2, h3, h4⟩ := M.mth c m f hf
    exact ⟨Ca, a, h1, h3, h4, atF f d a fd h2⟩
theorem factsA_of (hcP : cl.P = P) (hcw : cl.w = w) (M : Names3 T K mg cl p kit at_) (n : Nat) (ih : ∀ m, m ≤ n → AllN P w K mg base cl p kit at_ m) (act : SemA) : Facts T P w K mg base cl (gA p kit n act) (lv n) := ⟨factsB_of hcP hcw M n ih _ _ _ _, .inl fun _ _ _ _ _ _ z => z⟩
/-- the defs that call what they are given -/
theorem lamD_of (hcP : cl.P = P) (hcw : cl.w = w) (M : Names3 T K mg cl p kit at_) (n : Nat) (ih : ∀ m, m ≤ n → AllN P w K mg base cl p kit at_ m) : ∀ x g, T.lamD x = some g → ∃ a, mg x = some (.ref a) ∧ PySem.W.keepIn K (.ref a) = true ∧ LamAt P w K mg base cl (lv n) a (wpL p kit (wpN p kit n) (gA p kit n act0).make g) := fun x g hx => by
  obtain ⟨d, a, fd, h1, h2, h3, h4, h5⟩ := M.lamD x g hx
  obtain ⟨e, A, ok, _⟩ := M.defs g d a fd h1
  obtain ⟨c, hc⟩ := get_of ok
  have q := lam_step (fun act => factsA_of hcP hcw M n ih act) A hc ok h5 h3 h4
  rw [e] at q
  exact ⟨a, h2, A.kp, q⟩
theorem factsN_of (hcP : cl.P = P) (hcw : cl.w = w) (M : Names3 T K mg cl p kit at_) (n : Nat) (ih : ∀ m, m ≤ n → AllN P w K mg base cl p kit at_ m) : Facts T P w K mg base cl (gN p kit n) (lv n) := by
  match n, ih with
  | 0, ih => exact ⟨factsB_of hcP hcw M 0 ih _ _ _ _, .inl fun _ _ _ _ _ _ z => z⟩
  | 1, ih => exact ⟨factsB_of hcP hcw M 1 ih _ _ _ _, .inl fun _ _ _ _ _ _ z => z⟩
  | 2, ih => exact ⟨factsB_of hcP hcw M 2 ih _ _ _ _, .inr ⟨lv 0, rfl, factsB_of hcP hcw M 0 (fun m hm => ih m (by omega)) _ _ _ _, lamD_of hcP hcw M 0 fun m hm => ih m (by omega)⟩⟩
  | m + 3, ih => exact ⟨factsB_of hcP hcw M (m + 3) ih _ _ _ _, .inr ⟨lv (m + 1), rfl, factsB_of hcP hcw M (m + 1) (fun m' hm => ih m' (by omega)) _ _ _ _, lamD_of hcP hcw M (m + 1) fun m' hm => ih m' (by omega)⟩⟩
/-- ALL DEFS keep the promise that their clean form says -/
theorem all_upto (hcP : cl.P = P) (hcw : cl.w = w) (M : Names3 T K mg cl p kit at_) (htb : ∀ r ∈ cl.tb, LamX.TabB base mg r.c r.P) : ∀ n m, m ≤ n → AllN P w K mg base cl p kit at_ m
  | 0, m, hm => by
    cases Nat.le_zero.mp hm
    exact fun f d a fd _ => none_at rfl
  | n + 1, m, hm => by
    by_cases h : m ≤ n
    · exact all_upto hcP hcw M htb n m h
    · have e : m = n + 1 := by omega
      subst e
      intro f d a fd h
      obtain ⟨e, A, ok, _⟩ := M.defs f d a fd h
      obtain ⟨c, hc⟩ := get_of ok
      have np := np_of hc ok
      have q := def_step (factsN_of hcP hcw M n (all_upto hcP hcw M htb n)) A hc ok (M.lamC f d a fd h) htb
      rw [np, e] at q
      have e2 : lv (n + 1) = lv n + 1 := by (unfold lv; omega)
      rw [e2]
      exact q
theorem all_defs (hcP : cl.P = P) (hcw : cl.w = w) (M : Names3 T K mg cl p kit at_) (htb : ∀ r ∈ cl.tb, LamX.TabB base mg r.c r.P) : ∀ n f d a fd, at_ f = some (d, a, fd) → FnOkG P w K mg base (L2.CX P w) (lv n) a fd d.ps (spC K cl d.ps.length (wpN p kit n f)) := fun n => all_upto hcP hcw M htb n n (Nat.le_refl _)
end
end
end L3
namespace L3
open PySem L2 PyProof.Rows
noncomputable def Tb0 (cs : List (Addr × Addr)) (H : Hp) : Prop := ∀ p ∈ cs, H p.2 = some (.tbl #[])
/-- tracked are the script and the tables alone -/
noncomputable def OnlyT (cs : List (Addr × Addr)) (H : Hp) : Prop := ∀ b, H b = none ∨ (∃ p ∈ cs, b = p.2) ∨ ∃ o xs, H b = some (.frz o (.lst xs))
theorem law_callT {P : Program} {w : World} {K : PySem.W.Frag} {mg mb : Str → Option Value} {CXx : CXT} {k : Nat} {fa a : Addr} {fd : FuncData} {x : Str} {sp : Sp} {s₁ : Shared} {vs : List Value} {ns : List Int} {cs : List (Addr × Addr)} (KX : K.In s₁.heap) (hns : s₁.heap.Ns mainGlobals mg)
    (hbn : s₁.heap.Ns builtinsNs mb) (hbb : ∀ y : Str, y ≠ "__name__" → mb y = bootBuiltins y) (lim : s₁.heap.NoLimit) (gens : s₁.gens = #[]) (ha : s₁.heap.get? a = some { cls := .type "list", data := .seq vs.toArray }) (hi : IntsAre vs ns) (hl : ns.length ≤ sizeLine)
    (hT : ∀ p ∈ cs, s₁.heap.get? p.2 = some { cls := .none, data := .fields #[] }) (nT : ∀ p ∈ cs, K.lookup p.2 = none) (hC : ∀ p ∈ cs, PySem.W.codeHdIn K p.1 p.2 = true)
    (hbm : ∃ (bm : Addr) (ob : Obj), mg "__builtins__" = some (.ref bm) ∧ bm ≠ builtinsNs ∧ s₁.heap.get? bm = some ob ∧ ob.cls = .type "module" ∧ ob.dict = some builtinsNs ∧ ob.data = .plain)
    (room : Room k callerA) (F : ∀ base : Heap, K.In base → base.Ns mainGlobals mg → (∀ p ∈ cs, LamX.TabB base mg p.1 p.2) → FnOkG P w K mg base CXx k fa fd [x] sp) (bind : ∀ (s : Shared) (u : Value), BindsTo s fd ⟨[u], []⟩ [(x, u)])
    (hsp : ∀ H : Hp, Tb0 cs H → OnlyT cs H → SqL K H a (ns.map V.int) → sp [.ref a] H (fun v _ => v = .bl true) fun _ _ _ => False) (hCX : ∀ H e s', CXx [] H s₁ (fun _ _ _ => False) e s' → False) :
    codeAny (model P w) callerA (.call (.ref fa) ⟨[.ref a], []⟩) (fun r s' => r = .ok (.ret (.bool true)) ∧ OldK s₁.heap s'.heap ∧ s'.os = s₁.os ∧ AllBare s'.gens) s₁ := by
  have rv := vals_ints hi
  have lenV := hi.length
  have offA : ∀ p ∈ cs, p.2 ≠ a := fun p hp e => by
    have q := hT p hp
    rw [e, ha] at q
    cases q
  have main : ∀ H : Hp, Tb0 cs H → OnlyT cs H → SqL K H a (ns.map V.int) → HOk P w H s₁.heap → (∀ b u, H b = some u → (b = a ∧ K.lookup a = none) ∨ ∃ p ∈ cs, b = p.2) →
      codeAny (model P w) callerA (.call (.ref fa) ⟨[.ref a], []⟩) (fun r s' => r = .ok (.ret (.bool true)) ∧ OldK s₁.heap s'.heap ∧ s'.os = s₁.os ∧ AllBare s'.gens) s₁ := by
    intro H tb0 only sq hok one
    have loose : ∀ {b : Addr} {o : Obj}, s₁.heap.get? b = some o → (∀ us m, o.data ≠ .seq us m) → (∀ us, o.data ≠ .fields us) → H b = none := fun {b o} e n1 n2 => by
      cases q : H b with
      | none => rfl
      | some u =>
        rcases one b u q with ⟨e', _⟩ | ⟨p, hp, e'⟩
        · rw [e', ha] at e
          cases e
          exact (n1 _ _ rfl).elim
        · rw [e', hT p hp] at e
          cases e
          exact (n2 _ rfl).elim
    have hids : ∀ {b : Addr} {m : Str → Option Value}, s₁.heap.Ns b m → (hidT s₁.heap H).Ns b m := by
      rintro b m ⟨o, es, ep, e, d, r⟩
      exact ⟨o, es, ep, hidT_get e (loose e (fun us m z => by rw [d] at z; cases z) fun us z => by rw [d] at z; cases z), d, r⟩
    have hKb : K.In (hidT s₁.heap H) := fun b o e => hidT_get (KX b o e) (by
      cases q : H b with
      | none => rfl
      | some u =>
        rcases one b u q with ⟨e', z⟩ | ⟨p, hp, e'⟩
        · rw [e', z] at e
          cases e
        · rw [e', nT p hp] at e
          cases e)
    have TB : ∀ p ∈ cs, LamX.TabB (hidT s₁.heap H) mg p.1 p.2 := fun p hp => by
      obtain ⟨bm, ob, b1, b2, b3, b4, b5, b6⟩ := hbm
      obtain ⟨og, eg, pg, g1, g2, _⟩ := hns
      refine ⟨PySem.W.codeHd_of_K hKb (hC p hp), ⟨bm, ob, b1, b2, fun z => ?_, fun z => ?_, hidT_get b3 (loose b3 (fun us m z => by rw [b6] at z; cases z) fun us z => by rw [b6] at z; cases z), b4, b5, b6⟩, fun z => ?_⟩
      · rw [z, g1] at b3
        cases b3
        rw [g2] at b6
        cases b6
      · rw [z, hT p hp] at b3
        cases b3
        cases b6
      · rw [z, hT p hp] at g1
        cases g1
        cases g2
    have e0 : Env0 P w K mg (hidT s₁.heap H) callerA [] s₁ H := by
      refine ⟨rfl, ⟨hKb, hids hns, ⟨mb, hids hbn, hbb⟩, ?_⟩, fun b o e => of_hidT e, Nat.le_of_eq (hidT_size _ _), trivial, fun b hb => (nomatch (show b ∈ ([] : List Addr) from hb)), hok, .of_eq gens⟩
      obtain ⟨mc, h1, h2⟩ := lim
      exact ⟨mc, hids h1, h2⟩
    refine codeAny_mono ((F _ hKb (hids hns) TB).run callerA [] s₁ H _ [.ref a] [.ref a] _ _ room rfl e0 (bind s₁ (.ref a)) (.cons rfl .nil) (hsp H tb0 only sq)) fun r s' h => ?_
    match r, h with
    | .error e, h => exact (hCX H e s' h).elim
    | .ok (.ret u), ⟨v, H', os, bare, un, hok', r', q⟩ =>
      have q' : v = .bl true := q
      subst q'
      cases (show u = Value.bool true from r')
      have tabs : ∀ p ∈ cs, ∃ more : Array Value, s'.heap.get? p.2 = some { cls := .none, data := .fields more } := fun p hp => by
        obtain ⟨more, z⟩ := un.tbls p.2 #[] (tb0 p hp)
        exact ⟨_, hok' p.2 _ z⟩
      have rest : ∀ b o, (¬ ∃ p ∈ cs, b = p.2) → s₁.heap.get? b = some o → s'.heap.get? b = some o := fun b o nb e => by
        rcases only b with z | z | ⟨ob, xs, z⟩
        · exact un.keep b o e z (fun z => (nomatch (show b ∈ ([] : List Addr) from z))) (by simp)
        · exact (nb z).elim
        · have e1 := (hok b _ z).1
          have e2 := (hok' b _ (un.frzs b ob _ z)).1
          rw [e1] at e; cases e
          exact e2
      refine ⟨rfl, ⟨fun b o e => ?_, fun b o e => ?_⟩, os, bare⟩
      · by_cases hb : ∃ p ∈ cs, b = p.2
        · obtain ⟨p, hp, rfl⟩ := hb
          obtain ⟨more, hm⟩ := tabs p hp
          rw [hT p hp] at e
          cases e
          exact .inr (.inl ⟨((PySem.W.codeHd_of_K KX (hC p hp)).tab (hT p hp)).isCodeTable, rfl, #[], more, rfl, by rw [Array.empty_append]; exact hm⟩)
        · exact .inl (rest b o hb e)
      · by_cases hb : ∃ p ∈ cs, b = p.2
        · obtain ⟨p, hp, rfl⟩ := hb
          obtain ⟨more, hm⟩ := tabs p hp
          exact ⟨_, hm⟩
        · exact ⟨o, rest b o hb e⟩
  -- the tables, and the script where it is not of the module
  classical
  let T0 : Hp := fun b => if ∃ p ∈ cs, b = p.2 then some (.tbl #[]) else none
  have T0t : ∀ p ∈ cs, T0 p.2 = some (.tbl #[]) := fun p hp => if_pos ⟨p, hp, rfl⟩
  have T0a : T0 a = none := if_neg fun ⟨p, hp, e⟩ => offA p hp e.symm
  have T0o : ∀ b u, T0 b = some u → (∃ p ∈ cs, b = p.2) ∧ u = .tbl #[] := fun b u z => by
    by_cases h : ∃ p ∈ cs, b = p.2
    · rw [show T0 b = some (.tbl #[]) from if_pos h] at z; cases z; exact ⟨h, rfl⟩
    · rw [show T0 b = none from if_neg h] at z; cases z
  have okT : ∀ {H : Hp} (p : Addr × Addr), p ∈ cs → ObjOk P w H s₁.heap p.2 (.tbl #[]) := fun {H} p hp => hT p hp
  cases hk : K.lookup a with
  | some o =>
    have e := KX a o hk
    rw [ha] at e
    cases e
    refine main T0 T0t (fun b => ?_) (.inr ⟨_, vs.toArray, _, hk, rfl, rfl, rfl, ?_, by simpa using rv⟩) (fun b u z => ?_) fun b u z => .inr (T0o b u z).1
    · by_cases h : ∃ p ∈ cs, b = p.2
      · exact .inr (.inl h)
      · exact .inl (if_neg h)
    · rw [List.size_toArray, lenV]; exact hl
    · obtain ⟨⟨p, hp, rfl⟩, rfl⟩ := T0o b u z
      exact okT p hp
  | none =>
    have fr : ∀ b u, upd T0 a (HO.frz { cls := .type "list", data := .seq vs.toArray } (.lst (ns.map V.int))) b = some u → (b = a ∧ u = HO.frz { cls := .type "list", data := .seq vs.toArray } (.lst (ns.map V.int))) ∨ (b ≠ a ∧ T0 b = some u) := fun b u z => by
      by_cases h : b = a
      · rw [h, upd_same] at z; cases z; exact .inl ⟨h, rfl⟩
      · rw [upd_ne h] at z; exact .inr ⟨h, z⟩
    refine main (upd T0 a (.frz { cls := .type "list", data := .seq vs.toArray } (.lst (ns.map V.int)))) (fun p hp => by rw [upd_ne (offA p hp)]; exact T0t p hp) (fun b => ?_) (.inl (.inr ⟨_, upd_same⟩)) (fun b u z => ?_) fun b u z => ?_
    · by_cases h : b = a
      · exact .inr (.inr ⟨_, _, by rw [h]; exact upd_same⟩)
      · by_cases h2 : ∃ p ∈ cs, b = p.2
        · exact .inr (.inl h2)
        · exact .inl (by rw [upd_ne h]; exact if_neg h2)
    · rcases fr b u z with ⟨rfl, rfl⟩ | ⟨_, z⟩
      · exact ⟨ha, by rw [List.length_map]; exact hl, vs, _, rv, ha⟩
      · obtain ⟨⟨p, hp, rfl⟩, rfl⟩ := T0o b u z
        exact okT p hp
    · rcases fr b u z with ⟨e, _⟩ | ⟨_, z⟩
      · exact .inl ⟨e, hk⟩
      · exact .inr (T0o b u z).1
end L3
namespace L3
open PySem L2
noncomputable def AllP {α : Type} (P : α → Prop) : List α → Prop
  | [] => True
  | x :: xs => P x ∧ AllP P xs
theorem AllP.mem {α : Type} {P : α → Prop} {x : α} : ∀ {xs : List α}, AllP P xs → x ∈ xs → P x
  | y :: ys, ⟨h, t⟩, m => by
    rcases List.mem_cons.mp m with e | m
    · subst e; exact h
    · exact AllP.mem t m
noncomputable def look {α β : Type} [DecidableEq α] (xs : List (α × β)) (x : α) : Option β := (xs.find? fun q => decide (q.1 = x)).map (·.2)
theorem look_mem {α β : Type} [DecidableEq α] {xs : List (α × β)} {x : α} {y : β} (h : look xs x = some y) : (x, y) ∈ xs := by
  unfold look at h
  obtain ⟨q, h1, h2⟩ := Option.map_eq_some_iff.mp h
  have h3 := List.find?_some h1
  have h4 := List.mem_of_find?_eq_some h1
  simp only [decide_eq_true_eq] at h3
  obtain ⟨a, b⟩ := q
  simp only at h2 h3
  subst h2 h3
  exact h4
noncomputable def idxN : List (List (Str × NameKind)) → List (Str × NameKind) → Option Nat
  | [], _ => none
  | x :: xs, l => if x = l then some 0 else (idxN xs l).map (· + 1)
theorem idxN_some {l : List (Str × NameKind)} : ∀ {xs : List (List (Str × NameKind))} {j : Nat}, idxN xs l = some j → xs[j]? = some l
  | [], j, h => by cases h
  | x :: xs, j, h => by
    unfold idxN at h
    split at h
    · rename_i e
      cases h
      rw [e]; rfl
    · obtain ⟨i, h1, h2⟩ := Option.map_eq_some_iff.mp h
      subst h2
      exact (List.getElem?_cons_succ).trans (idxN_some h1)
theorem idxN_mem {l : List (Str × NameKind)} : ∀ {xs : List (List (Str × NameKind))}, l ∈ xs → idxN xs l ≠ none
  | x :: xs, h, e => by
    unfold idxN at e
    split at e
    · cases e
    · rename_i ne
      rcases List.mem_cons.mp h with z | z
      · exact ne z.symm
      · exact idxN_mem z (by simpa using e)
structure TabL where
  fn : List (Str × Nat) := []
  cls : List (Str × Nat) := []
  glb : List (Str × D) := []
  blt : List Str := []
  shape : List ((Nat × Nat × List Str) × (Nat × List Src)) := []
  init : List (Nat × Nat) := []
  own : List (Nat × Nat) := []
  ownL : List (Nat × Nat) := []
  ownB : List (Nat × Nat) := []
  xcl : List Nat := []
  xkit : List ((Nat × (String ⊕ Nat)) × Bool) := []
  mth : List ((Nat × Str) × Nat) := []
  attr : List (Nat × Str) := []
  exc : List Nat := []
  tch : List (Str × List Nat) := []
  gdc : List (Str × List (Str × Int)) := []
  lamD : List (Str × Nat) := []
  lamS : List (List (Str × NameKind)) := []
  lamM : List (Nat × Nat) := []
noncomputable def TabL.tab (L : TabL) : Tab where
  fn := look L.fn
  cls := look L.cls
  glb := look L.glb
  blt := fun x => decide (x ∈ L.blt)
  shape := fun f m ks => look L.shape (f, m, ks)
  init := look L.init
  own := look L.own
  ownL := look L.ownL
  ownB := look L.ownB
  xcl := fun c => decide (c ∈ L.xcl)
  xkit := fun c u => look L.xkit (c, u)
  mth := fun c m => look L.mth (c, m)
  attr := fun c f => decide ((c, f) ∈ L.attr)
  exc := fun c => decide (c ∈ L.exc)
  tch := fun x cs => decide ((x, cs) ∈ L.tch)
  gdc := look L.gdc
  lamD := look L.lamD
  lamS := idxN L.lamS
  lamM := look L.lamM
noncomputable abbrev Kit := List ((String ⊕ Nat) × (String ⊕ Nat) × Bool)
noncomputable def Kit.get (k : Kit) (t u : String ⊕ Nat) : Option Bool := (k.find? fun q => decide (q.1 = t) && decide (q.2.1 = u)).map (·.2.2)
theorem Kit.get_mem {k : Kit} {t u : String ⊕ Nat} {b : Bool} (h : k.get t u = some b) : (t, u, b) ∈ k := by
  unfold Kit.get at h
  obtain ⟨q, h1, h2⟩ := Option.map_eq_some_iff.mp h
  have h3 := List.find?_some h1
  have h4 := List.mem_of_find?_eq_some h1
  simp only [Bool.and_eq_true, decide_eq_true_eq] at h3
  obtain ⟨a, c, d⟩ := q
  obtain ⟨h5, h6⟩ := h3
  simp only at h2 h5 h6
  subst h2 h5 h6
  exact h4
/-- the kinds of data, one of another -/
noncomputable def kitPlain : Kit := [(.inl "NoneType", .inl "int", false), (.inl "bool", .inl "int", true), (.inl "int", .inl "int", true), (.inl "str", .inl "int", false), (.inl "tuple", .inl "int", false), (.inl "list", .inl "int", false), (.inl "dict", .inl "int", false),
  (.inl "NoneType", .inl "bool", false), (.inl "bool", .inl "bool", true), (.inl "int", .inl "bool", false), (.inl "str", .inl "bool", false), (.inl "tuple", .inl "bool", false), (.inl "list", .inl "bool", false), (.inl "dict", .inl "bool", false),
  (.inl "NoneType", .inl "str", false), (.inl "bool", .inl "str", false), (.inl "int", .inl "str", false), (.inl "str", .inl "str", true), (.inl "tuple", .inl "str", false), (.inl "list", .inl "str", false), (.inl "dict", .inl "str", false),
  (.inl "NoneType", .inl "tuple", false), (.inl "bool", .inl "tuple", false), (.inl "int", .inl "tuple", false), (.inl "str", .inl "tuple", false), (.inl "tuple", .inl "tuple", true), (.inl "list", .inl "tuple", false), (.inl "dict", .inl "tuple", false),
  (.inl "NoneType", .inl "list", false), (.inl "bool", .inl "list", false), (.inl "int", .inl "list", false), (.inl "str", .inl "list", false), (.inl "tuple", .inl "list", false), (.inl "list", .inl "list", true), (.inl "dict", .inl "list", false)]
noncomputable def KitP (K : PySem.W.Frag) (cl : ClsT) (q : (String ⊕ Nat) × (String ⊕ Nat) × Bool) : Prop := ∀ vt, tyVal cl q.1 = some vt → ∃ vu, tyVal cl q.2.1 = some vu ∧ PySem.W.kitOne K vt vu = some q.2.2
theorem kitP_ty {K : PySem.W.Frag} {cl : ClsT} {t u : String} {b : Bool} (h : PySem.W.kitOne K (.type t) (.type u) = some b) : KitP K cl (.inl t, .inl u, b) := fun vt e => by
  have e' : vt = .type t := (Option.some.inj e).symm
  rw [e']
  exact ⟨_, rfl, h⟩
section
variable {K : PySem.W.Frag} {mg : Str → Option Value} {cl : ClsT}
/-- the defs, numbered from i -/
noncomputable def Ents (K : PySem.W.Frag) (T : Tab) (p : Prog3) : Nat → List (DefT × Addr × FuncData) → Prop
  | _, [] => True
  | i, e :: r => (e.1.f = i ∧ DefAt K e.1 e.2.1 e.2.2 ∧ e.1.ok T p = true) ∧ Ents K T p (i + 1) r
theorem Ents.get {T : Tab} {p : Prog3} {e : DefT × Addr × FuncData} : ∀ (E : List (DefT × Addr × FuncData)) (i j : Nat), Ents K T p i E → E[j]? = some e → e.1.f = i + j ∧ DefAt K e.1 e.2.1 e.2.2 ∧ e.1.ok T p = true := by
  intro E
  induction E with
  | nil => intro i j _ q; simp at q
  | cons a r ih =>
    intro i j h q
    cases j with
    | zero =>
      simp only [List.getElem?_cons_zero, Option.some.injEq] at q
      rw [← q]
      exact h.1
    | succ j =>
      have := ih (i + 1) j h.2 (by simpa using q)
      rw [show i + 1 + j = i + (j + 1) by omega] at this
      exact this
/-- what a class is good for that is raised -/
structure ExcK (K : PySem.W.Frag) (Ca : Addr) : Prop where
  x1 : PySem.W.excIn K Ca [.type "ValueError", .type "Exception", .type "BaseException", .type "object"] "ValueError.__new__" = true
  x2 : PySem.W.keepIn K (.ref Ca) = true
  x3 : PySem.W.subIn K (.ref Ca) (.type "BaseException") = some true
  x4 : PySem.W.typeIn K (.ref Ca) = some (.type "type")
noncomputable abbrev clL (P : Program) (w : World) (CL : List Addr) (TB : List LamR) : ClsT := ⟨fun c => CL[c]?, P, w, TB⟩
structure LawN (P : Program) (w : World) (L : TabL) (K : PySem.W.Frag) (mg : Str → Option Value) (CL : List Addr) (TB : List LamR) (p : Prog3) (kit : Kit) (E : List (DefT × Addr × FuncData)) : Prop where
  ents : Ents K L.tab p 0 E
  shape : AllP (fun q => ∃ e, E[q.1.1]? = some e ∧ q.2.1 = e.1.ps.length ∧ BindsC K e.2.2 e.1.ps q.1.2.1 q.1.2.2 q.2.2) L.shape
  fn : AllP (fun q => ∃ e, E[q.2]? = some e ∧ mg q.1 = some (.ref e.2.1)) L.fn
  cls : AllP (fun q => ∃ Ca, CL[q.2]? = some Ca ∧ mg q.1 = some (.ref Ca)) L.cls
  init : AllP (fun q => ∃ Ca e, CL[q.1]? = some Ca ∧ E[q.2]? = some e ∧ Mk K Ca e.2.1) L.init
  own : AllP (fun q => ∃ Ca e, CL[q.1]? = some Ca ∧ E[q.2]? = some e ∧ OwnEX K Ca e.2.1) L.own
  ownL : AllP (fun q => ∃ Ca e, CL[q.1]? = some Ca ∧ E[q.2]? = some e ∧ OwnL K Ca e.2.1) L.ownL
  ownB : AllP (fun q => ∃ Ca e, CL[q.1]? = some Ca ∧ E[q.2]? = some e ∧ OwnB K Ca e.2.1) L.ownB
  xcl : AllP (fun c => ∀ Ca, CL[c]? = some Ca → ExcC K Ca) L.xcl
  xkit : AllP (fun q => ∀ Ca, CL[q.1.1]? = some Ca → ∃ vu, tyVal (clL P w CL TB) q.1.2 = some vu ∧ PySem.W.kitOne K (.ref Ca) vu = some q.2) L.xkit
  mth : AllP (fun q => ∃ Ca e, CL[q.1.1]? = some Ca ∧ E[q.2]? = some e ∧ Cls K Ca ∧ Meth K Ca q.1.2 e.2.1) L.mth
  glb : AllP (fun q => ∃ u v, mg q.1 = some u ∧ RelV v u ∧ ∀ H, Rep K H q.2 v) L.glb
  blt : AllP (fun x => mg x = none) L.blt
  attr : AllP (fun q => ∀ Ca, CL[q.1]? = some Ca → Cls K Ca ∧ NoAttr K Ca q.2) L.attr
  kit_ : AllP (KitP K (clL P w CL TB)) kit
  kitc : AllP (fun q => ∀ c Ca, q.1 = .inr c → CL[c]? = some Ca → ClsOk K Ca) kit
  exc : AllP (fun c => ∀ Ca, CL[c]? = some Ca → ExcK K Ca) L.exc
  tch : AllP (fun q : Str × List Nat => ∃ c, (mg q.1 = some c ∨ (mg q.1 = none ∧ bootBuiltins q.1 = some c ∧ q.1 ≠ ("__name__" : Str))) ∧ SubOk K (clL P w CL TB) c fun i => decide (i ∈ q.2)) L.tch
  gdc : AllP (fun q => ∃ p, mg q.1 = some (.ref p) ∧ WDct K w p q.2 ∧ ∃ es m, K.lookup p = some ⟨.type "dict", none, .dict es m, #[]⟩) L.gdc
  lamD : AllP (fun q => ∃ e, E[q.2]? = some e ∧ mg q.1 = some (.ref e.2.1) ∧ BindsC K e.2.2 e.1.ps 1 [] [.pos 0] ∧ e.1.ps.length = 1 ∧ L.tab.lamS (defScope e.1.stmt).names = none) L.lamD
  lamS : TB.map (·.names) = L.lamS
  lamN : L.lamS.Nodup
  lamU : ∀ r ∈ TB, ∀ p ∈ TB, p.P = r.P → p.q = r.q
  lamM : AllP (fun q : Nat × Nat => ∃ (e : DefT × Addr × FuncData) (r : LamR), E[q.1]? = some e ∧ TB[q.2]? = some r ∧ e.2.2.code = .ref r.c ∧ e.1.qual ++ (".<locals>." : Str) ++ ("<lambda>" : Str) = r.q) L.lamM
theorem LawN.names {P : Program} {w : World} {L : TabL} {CL : List Addr} {TB : List LamR} {p : Prog3} {kit : Kit} {E : List (DefT × Addr × FuncData)} (W : LawN P w L K mg CL TB p kit E) : Names3 L.tab K mg (clL P w CL TB) p kit.get (fun f => E[f]?) := by
  refine ⟨fun f d a fd h => ?_, fun x f h => ?_, fun x c h => ?_, fun c f h => ?_, fun c f h => ?_, fun c f h => ?_, fun c f h => ?_, fun c Ca h hc => ?_, fun c u b Ca h hc => ?_, fun c m f h => ?_, fun x d h => ?_, fun x h => ?_, fun c f Ca h hc => ?_, fun t u b vt h1 h2 => ?_, fun c u b Ca h hc => ?_, fun c Ca h hc => ?_, fun x cs h => ?_, fun x tab h => ?_, fun x g h => ?_, fun l j h => ?_, fun j r h => ?_, W.lamU, fun f d a fd h r hr e => ?_⟩
  · obtain ⟨h1, h2, h3⟩ := Ents.get _ _ _ W.ents h
    refine ⟨by simpa using h1, h2, h3, fun m ks np g hs => ?_⟩
    obtain ⟨e, e1, e2, e3⟩ := W.shape.mem (look_mem hs)
    simp only at e1 e2 e3
    rw [h] at e1
    cases e1
    exact ⟨e2, e3⟩
  · obtain ⟨⟨d, a, fd⟩, e1, e2⟩ := W.fn.mem (look_mem h)
    exact ⟨d, a, fd, e1, e2⟩
  · exact W.cls.mem (look_mem h)
  · obtain ⟨Ca, ⟨d, a, fd⟩, e1, e2, e3⟩ := W.init.mem (look_mem h)
    exact ⟨Ca, d, a, fd, e1, e2, e3⟩
  · obtain ⟨Ca, ⟨d, a, fd⟩, e1, e2, e3⟩ := W.own.mem (look_mem h)
    exact ⟨Ca, d, a, fd, e1, e2, e3⟩
  · obtain ⟨Ca, ⟨d, a, fd⟩, e1, e2, e3⟩ := W.ownL.mem (look_mem h)
    exact ⟨Ca, d, a, fd, e1, e2, e3⟩
  · obtain ⟨Ca, ⟨d, a, fd⟩, e1, e2, e3⟩ := W.ownB.mem (look_mem h)
    exact ⟨Ca, d, a, fd, e1, e2, e3⟩
  · exact W.xcl.mem (of_decide_eq_true h) Ca hc
  · exact W.xkit.mem (look_mem h) Ca hc
  · obtain ⟨Ca, ⟨d, a, fd⟩, e1, e2, e3, e4⟩ := W.mth.mem (look_mem h)
    exact ⟨Ca, d, a, fd, e1, e2, e3, e4⟩
  · exact W.glb.mem (look_mem h)
  · exact W.blt.mem (of_decide_eq_true h)
  · exact W.attr.mem (of_decide_eq_true h) Ca hc
  · exact W.kit_.mem (Kit.get_mem h1) vt h2
  · exact W.kitc.mem (Kit.get_mem h) c Ca rfl hc
  · have q := W.exc.mem (of_decide_eq_true h) Ca hc
    exact ⟨q.x1, q.x2, q.x3, q.x4⟩
  · exact W.tch.mem (of_decide_eq_true h)
  · exact W.gdc.mem (look_mem h)
  · obtain ⟨⟨d, a, fd⟩, e1, e2, e3, e4, e5⟩ := W.lamD.mem (look_mem h)
    refine ⟨d, a, fd, e1, e2, e3, e4, fun r hr e => ?_⟩
    have m : (defScope d.stmt).names ∈ L.lamS := by rw [← W.lamS, ← e]; exact List.mem_map.mpr ⟨r, hr, rfl⟩
    exact idxN_mem m e5
  · have q := idxN_some h
    rw [← W.lamS, List.getElem?_map] at q
    obtain ⟨r, h1, h2⟩ := Option.map_eq_some_iff.mp q
    exact ⟨r, h1, h2⟩
  · exact idxN_mem (by rw [← W.lamS]; exact List.mem_map.mpr ⟨r, List.mem_of_getElem? h, rfl⟩)
  · obtain ⟨h1, h2, h3⟩ := Ents.get _ _ _ W.ents h
    have ck := lamCk_of h3
    unfold lamCk at ck
    have m : (defScope d.stmt).names ∈ L.lamS := by rw [← W.lamS, ← e]; exact List.mem_map.mpr ⟨r, hr, rfl⟩
    cases q : L.tab.lamS (defScope d.stmt).names with
    | none => exact (idxN_mem m q).elim
    | some j =>
      rw [q] at ck
      have hM := of_decide_eq_true ck
      obtain ⟨e', r', m1, m2, m3, m4⟩ := W.lamM.mem (look_mem hM)
      have hf : d.f = f := by simpa using h1
      simp only at m1 m2
      rw [hf, h] at m1
      cases m1
      have nr : r' = r := by
        have q' := idxN_some q
        obtain ⟨i, hi⟩ := List.getElem?_of_mem hr
        have a1 : L.lamS[i]? = some (defScope d.stmt).names := by rw [← W.lamS, List.getElem?_map, hi]; exact congrArg some e
        have ij : i = j := by
          exact (List.getElem?_inj (List.getElem?_eq_some_iff.mp a1).1 W.lamN).mp (a1.trans q'.symm)
        rw [ij, m2] at hi
        exact Option.some.inj hi
      rw [nr] at m3 m4
      exact ⟨m3, m4⟩
noncomputable def posn (n : Nat) : List Src := (List.range n).map Src.pos
theorem gath_posn : ∀ (ds es : List D), gath (posn ds.length) ds es = ds := fun ds es => by
  unfold gath posn
  rw [List.map_map]
  apply List.ext_getElem
  · simp
  · intro i h1 h2
    simp [Src.get, h2]
/-- all arguments by place -/
theorem len1 {α : Type} {P : List α → Prop} (h : ∀ a0, P [a0]) : ∀ us : List α, us.length = 1 → P us
  | [a0], _ => h a0
theorem len2 {α : Type} {P : List α → Prop} (h : ∀ a0 a1, P [a0, a1]) : ∀ us : List α, us.length = 2 → P us
  | [a0, a1], _ => h a0 a1
theorem len3 {α : Type} {P : List α → Prop} (h : ∀ a0 a1 a2, P [a0, a1, a2]) : ∀ us : List α, us.length = 3 → P us
  | [a0, a1, a2], _ => h a0 a1 a2
theorem bindsC_pos {fd : FuncData} {ps : List Str} (h : ∀ us : List Value, us.length = ps.length → bindArgs fd ⟨us, []⟩ = pure (ps.zip us)) : BindsC K fd ps ps.length [] (posn ps.length) :=
  ⟨fun us _ => us, fun vs _ => vs, fun s us ws _ hl hw => by
    have e : ws = [] := List.eq_nil_of_length_eq_zero hw
    subst e
    exact .of_eq (h us hl), fun r _ => r, fun H ds vs es zs hl _ r _ => by
    rw [← hl, gath_posn]
    exact r⟩
end
/-- what the law's text answers, over data -/
noncomputable def LawTrue (p : Prog3) (kit : Kit) (n f : Nat) : Prop := ∀ ns : List Int, ns.length ≤ 63 → (∀ z ∈ ns, Builtin.Int.intBits z ≤ 1048576) → wpN p kit.get n f [.rls (ns.map D.int)] (fun _ => none) (fun d _ => d = .bl true) fun _ _ => False
noncomputable def spL (K : PySem.W.Frag) (TB : List LamR) : Sp := fun vs H Q _ => ∃ (a : Addr) (ns : List Int), vs = [.ref a] ∧ (∀ r ∈ TB, H r.P = some (.tbl #[])) ∧ RlS K H a (ns.map V.int) ∧ ns.length ≤ 63 ∧ (∀ z ∈ ns, Builtin.Int.intBits z ≤ 1048576) ∧ ∀ H', Q (.bl true) H'
theorem repL_ints {K : PySem.W.Frag} {H : Hp} : ∀ ns : List Int, RepL K H (ns.map D.int) (ns.map V.int)
  | [] => .nil
  | n :: ns => .cons (.int n) (repL_ints ns)
theorem law_ok {L : TabL} {P : Program} {w : World} {K : PySem.W.Frag} {mg : Str → Option Value} {base : Heap} {CL : List Addr} {TB : List LamR} {p : Prog3} {kit : Kit} {E : List (DefT × Addr × FuncData)} (W : LawN P w L K mg CL TB p kit E) (htb : ∀ r ∈ TB, LamX.TabB base mg r.c r.P) {n f : Nat} {d : DefT} {a : Addr} {fd : FuncData}
    (h : E[f]? = some (d, a, fd)) {x : Str} (hx : d.ps = [x]) (S : LawTrue p kit n f) : FnOkG P w K mg base (L2.CX P w) (lv n) a fd [x] (spL K TB) := by
  have q := all_defs (P := P) (w := w) (base := base) rfl rfl W.names htb n f d a fd h
  rw [hx] at q
  refine q.imp fun vs H Q E ⟨b, ns, e, hT, hS, hl, hb, hq⟩ => ?_
  subst e
  refine ⟨[.rls (ns.map D.int)], fun _ => none, _, _, .cons (.rls hS (repL_ints ns)) .nil, rfl, ⟨fun _ _ e => (by cases e), fun p hp => (by obtain ⟨r, h1, h2⟩ := List.mem_map.mp hp; rw [← h2]; exact LamX.TabS.nil (hT r h1))⟩, S ns hl hb, fun d C' v H' e r _ _ => ?_, fun _ _ _ _ _ z => z.elim⟩
  subst e
  cases r
  exact hq H'
theorem walk3 {l : PySem.W.OpenLaw} {q : Program} {loose : List Str} {XP : (Str → Option Value) → Heap → Prop} {YP : World → Heap → Prop} {d : DefRec} {K : Params → PySem.W.Frag} {x : Str} {k : Nat} (hn : l.most = some 63) (hdf : d.params.defaults = []) (hr : Room k callerA)
    (hY : ∀ (w : World) (h : Heap), YP w h → (K w.params).In h)
    (F : ∀ (w : World) (mg : Str → Option Value) (fa : Addr) (h : Heap), YP w h → (K w.params).In h → h.Ns mainGlobals mg → mg d.name = some (.ref fa) →
      ∃ (fd : FuncData) (TB : List LamR), (∀ (s : Shared) (u : Value), BindsTo s fd ⟨[u], []⟩ [(x, u)]) ∧ (∀ r ∈ TB, h.get? r.P = some { cls := .none, data := .fields #[] } ∧ (K w.params).lookup r.P = none ∧ PySem.W.codeHdIn (K w.params) r.c r.P = true) ∧
        ∀ base : Heap, (K w.params).In base → base.Ns mainGlobals mg → (∀ r ∈ TB, LamX.TabB base mg r.c r.P) → FnOkG l.prog w (K w.params) mg base (L2.CX l.prog w) k fa fd [x] (spL (K w.params) TB)) :
    PySem.W.WalkO q loose XP YP l.row.toRowW d [] (fun f vs => PySem.call f vs) := by
  refine Att.attach_callB hn hdf fun w s₀ s₁ mg mb fa o pm cd doc a vs ns G Y _ _ _ named obj hint len bits gens => ?_
  have KX := hY w _ Y
  obtain ⟨fd, TB, hb, hT, hF⟩ := F w mg fa _ Y KX G.T.g named
  have un : ∀ {p : Addr × Addr}, p ∈ TB.map (fun r => (r.c, r.P)) → ∃ r ∈ TB, p = (r.c, r.P) := fun hp => let ⟨r, h1, h2⟩ := List.mem_map.mp hp; ⟨r, h1, h2.symm⟩
  refine law_callT (cs := TB.map fun r => (r.c, r.P)) (sp := spL (K w.params) TB) (CXx := L2.CX l.prog w) KX G.T.g G.T.b G.T.builtins G.T.nolimit gens obj hint (Nat.le_trans len (by decide)) (fun p hp => ?_) (fun p hp => ?_) (fun p hp => ?_) G.T.bmain hr (fun base K1 K2 K3 => hF base K1 K2 fun r hr => K3 (r.c, r.P) (List.mem_map.mpr ⟨r, hr, rfl⟩)) hb (fun H hH hO hS => ⟨a, ns, rfl, fun r hr => hH (r.c, r.P) (List.mem_map.mpr ⟨r, hr, rfl⟩), ?_, len, bits, fun _ => rfl⟩) fun H e s' h => ?_
  · obtain ⟨r, h1, rfl⟩ := un hp; exact (hT r h1).1
  · obtain ⟨r, h1, rfl⟩ := un hp; exact (hT r h1).2.1
  · obtain ⟨r, h1, rfl⟩ := un hp; exact (hT r h1).2.2
  · rcases hS with (h | ⟨o, h⟩) | h
    · rcases hO a with z | ⟨p, hp, z⟩ | ⟨o, xs, z⟩
      · rw [h] at z; cases z
      · rw [z, hH p hp] at h; cases h
      · rw [h] at z; cases z
    · exact .inl ⟨o, h⟩
    · exact .inr h
  · obtain ⟨_, _, _, _, _, _, _, _, _, _, _, _, z⟩ := h
    exact z.elim
theorem wpN_eq (p : Prog3) (kit : String ⊕ Nat → String ⊕ Nat → Option Bool) (n f : Nat) (ds : List D) (C : CH) (Q : Kv) (E : Kx) (d : FDef) (h : p.get f = some d) (hl : ds.length = d.np) : wpN p kit (n + 1) f ds C Q E = rdSs (gN p kit n) (exN E) d.body (endN Q) (startN d.ns ds) C := by
  have e : wpN p kit (n + 1) f ds C Q E = (ds.length = d.np ∧ rdSs (gN p kit n) (exN E) d.body (endN Q) (startN d.ns ds) C) := by
    rw [wpN_succ]
    simp only [h]
  rw [e]
  exact propext ⟨fun h => h.2, fun h => ⟨hl, h⟩⟩
theorem wpL_eq (p : Prog3) (kit : String ⊕ Nat → String ⊕ Nat → Option Bool) (n g : Nat) (act : SemA) (ds : List D) (C : CH) (Q : Kv) (E : Kx) (d : FDef) (h : p.get g = some d) (hl : ds.length = d.np) : (gN p kit (n + 3)).lam g act ds C Q E = rdSs (gA p kit (n + 1) act) (exN E) d.body (endN Q) (startN d.ns ds) C := by
  have e : (gN p kit (n + 3)).lam g act ds C Q E = (ds.length = d.np ∧ rdSs (gA p kit (n + 1) act) (exN E) d.body (endN Q) (startN d.ns ds) C) := by
    unfold gN wpL
    simp only [h]
    rfl
  rw [e]
  exact propext ⟨fun h => h.2, fun h => ⟨hl, h⟩⟩
theorem kitPlain_ok {K : PySem.W.Frag} {cl : ClsT} : AllP (KitP K cl) kitPlain := by
  unfold kitPlain
  repeat' first | exact trivial | refine ⟨kitP_ty (by rfl), ?_⟩
theorem kitPlain_c {K : PySem.W.Frag} {CL : List Addr} : AllP (fun q : (String ⊕ Nat) × (String ⊕ Nat) × Bool => ∀ c Ca, q.1 = .inr c → CL[c]? = some Ca → ClsOk K Ca) kitPlain := by
  unfold kitPlain
  repeat' first | exact trivial | refine ⟨fun _ _ e => (by cases e), ?_⟩
theorem relV_int {i : Int} {t : Tok} : RelV (.int i) (.int i t) := ⟨t, rfl⟩
theorem relV_str {i : Str} {t : Tok} : RelV (.str i) (.str i t) := ⟨t, rfl⟩
end L3
namespace L3
open PySem L2
section
variable {K : PySem.W.Frag} {fd : FuncData} {ps : List Str} {n : Nat} {ks : List Str} {gs : List Src}
/-- all are written, some by keywords -/
theorem bindsC_N (g : {α : Type} → List α → List α → List α)
    (hrel : ∀ {vs zs : List V} {us ws : List Value}, Vals vs us → Vals zs ws → Vals (g vs zs) (g us ws))
    (h : ∀ (us ws : List Value), us.length = n → ws.length = ks.length → bindArgs fd ⟨us, ks.zip ws⟩ = pure (ps.zip (g us ws)))
    (rel : ∀ H ds vs es zs, ds.length = n → es.length = ks.length → RepL K H ds vs → RepL K H es zs → RepL K H (gath gs ds es) (g vs zs)) : BindsC K fd ps n ks gs :=
  ⟨fun us ws => g us ws, fun vs zs => g vs zs, fun s us ws _ l1 l2 => .of_eq (h us ws l1 l2), hrel, rel⟩
/-- some are left out: the defaults are the tuple at T, the keyword-only ones stand in the dict at Dk -/
theorem bindsC_D {T Dk : Addr} {o : Obj} {its : List Value} {m : Nat} {dvs : List V} {ms : List (Str × V)} (g : {α : Type} → List α → List α → List α → List α → List α)
    (lT : K.lookup T = some o) (oT : o.data = .seq its.toArray m) (rT : Vals dvs its) (hq : ∀ q ∈ ms, ∃ u, PySem.W.nsIn K Dk q.1 = some (some u) ∧ RelV q.2 u)
    (hrel : ∀ {vs ds mz zs : List V} {us its mv ws : List Value}, Vals vs us → Vals ds its → Vals mz mv → Vals zs ws → Vals (g vs ds mz zs) (g us its mv ws))
    (h : ∀ (us mv ws : List Value), us.length = n → mv.length = ms.length → ws.length = ks.length →
      ∃ k, bindArgs fd ⟨us, ks.zip ws⟩ = seqItems? (.ref T) >>= k ∧ KwChain Dk ((ms.map (·.1)).zip mv) (k (some its.toArray)) (ps.zip (g us its mv ws)))
    (rel : ∀ H ds vs es zs, ds.length = n → es.length = ks.length → RepL K H ds vs → RepL K H es zs → RepL K H (gath gs ds es) (g vs dvs (ms.map (·.2)) zs)) : BindsC K fd ps n ks gs := by
  obtain ⟨mv, hl, rk, hks⟩ := kwd_vals (ms := ms) hq
  refine ⟨fun us ws => g us its mv ws, fun vs zs => g vs dvs (ms.map (·.2)) zs, fun s us ws X l1 l2 => ?_, fun r1 r2 => hrel r1 rT rk r2, rel⟩
  obtain ⟨k, e1, e2⟩ := h us mv ws l1 hl l2
  refine BindsTo.of_looks fun M => ?_
  rw [e1]
  exact looks_items X lT oT (KwChain.looks X hks e2)
end
theorem tyC_lst {C : CH} {p : Addr} {xs : List D} (h : C p = some (.lst xs)) : tyC C (.ref p) = some (.inl "list") := by simp [tyC, h]
end L3
namespace L3
open PySem L2
inductive T where
  | non | bl (b : Bool) | int (i : Int) | str (x : Str) | tup (xs : List T)
mutual
noncomputable def T.d : T → D
  | .non => .non
  | .bl b => .bl b
  | .int i => .int i
  | .str x => .str x
  | .tup xs => .tup (T.ds xs)
noncomputable def T.ds : List T → List D
  | [] => []
  | x :: xs => x.d :: T.ds xs
end
theorem T.ds_map : ∀ xs : List T, T.ds xs = xs.map T.d
  | [] => rfl
  | x :: xs => by rw [T.ds, T.ds_map xs, List.map_cons]
theorem T.ds_length (xs : List T) : (T.ds xs).length = xs.length := by rw [T.ds_map, List.length_map]
mutual
noncomputable def T.p : T → PyData
  | .non => .none
  | .bl b => .bool b
  | .int i => .int i
  | .str x => .str x
  | .tup xs => .tuple (T.pl xs)
noncomputable def T.pl : List T → List PyData
  | [] => []
  | x :: xs => x.p :: T.pl xs
end
mutual
theorem T.snap (C : CH) : ∀ t : T, Snap C t.d t.p
  | .non => .non
  | .bl b => .bl b
  | .int i => .int i
  | .str x => .str x
  | .tup xs => .tup (T.snaps C xs)
theorem T.snaps (C : CH) : ∀ ts : List T, SnapL C (T.ds ts) (T.pl ts)
  | [] => .nil
  | x :: xs => .cons (T.snap C x) (T.snaps C xs)
end
theorem SqC_tup {C : CH} {xs ds : List D} : SqC C (.tup xs) ds ↔ xs = ds := by
  unfold SqC
  constructor
  · rintro (h | h | ⟨p, h, _⟩)
    · exact D.tup.inj h
    · cases h
    · cases h
  · intro h; exact .inl (by rw [h])
theorem SqC_rls {C : CH} {xs ds : List D} : SqC C (.rls xs) ds ↔ xs = ds := by
  unfold SqC
  constructor
  · rintro (h | h | ⟨p, h, _⟩)
    · cases h
    · exact D.rls.inj h
    · cases h
  · intro h; exact .inr (.inl (by rw [h]))
theorem SqC_ref {C : CH} {p : Addr} {ds : List D} : SqC C (.ref p) ds ↔ C p = some (.lst ds) := by
  unfold SqC LsC
  constructor
  · rintro (h | h | ⟨q, h, h2⟩)
    · cases h
    · cases h
    · cases h; exact h2
  · intro h; exact .inr (.inr ⟨p, rfl, h⟩)
theorem SqC_str {C : CH} {z : Str} {ds : List D} : SqC C (.str z) ds ↔ False := by
  unfold SqC
  constructor
  · rintro (h | h | ⟨q, h, h2⟩) <;> cases h
  · exact False.elim
theorem SqC_int {C : CH} {z : Int} {ds : List D} : SqC C (.int z) ds ↔ False := by
  unfold SqC
  constructor
  · rintro (h | h | ⟨q, h, h2⟩) <;> cases h
  · exact False.elim
theorem LsC_iff {C : CH} {p : Addr} {ds : List D} : LsC C p ds ↔ C p = some (.lst ds) := Iff.rfl
theorem cup_old {C : CH} {p q : Addr} {o u : CO} (hp : C p = none) (hq : C q = some o) : cup C p u q = some o := by
  rw [cup_ne (fun e => by rw [e, hp] at hq; cases hq)]
  exact hq
theorem tyC_non {C : CH} : tyC C .non = some (.inl "NoneType") := rfl
theorem tyC_bl {C : CH} {b : Bool} : tyC C (.bl b) = some (.inl "bool") := rfl
theorem tyC_int {C : CH} {b : Int} : tyC C (.int b) = some (.inl "int") := rfl
theorem tyC_str {C : CH} {b : Str} : tyC C (.str b) = some (.inl "str") := rfl
theorem tyC_tup {C : CH} {b : List D} : tyC C (.tup b) = some (.inl "tuple") := rfl
theorem atI_nat {α : Type} {xs : List α} {i : Nat} {c : α} (h : xs[i]? = some c) : L2.atI xs (i : Int) = some c := L2.atI_nat h
theorem atI_zero {α : Type} {c : α} {r : List α} : L2.atI (c :: r) 0 = some c := L2.atI_nat (j := 0) rfl
theorem atI_one {α : Type} {b c : α} {r : List α} : L2.atI (b :: c :: r) 1 = some c := L2.atI_nat (j := 1) rfl
theorem atI_two {α : Type} {a b c : α} {r : List α} : L2.atI (a :: b :: c :: r) 2 = some c := L2.atI_nat (j := 2) rfl
theorem sl_lt0 : 0 < sizeLine := by decide
theorem sl_le0 : 0 ≤ sizeLine := by decide
theorem sl_lt1 : 1 < sizeLine := by decide
theorem sl_le1 : 1 ≤ sizeLine := by decide
theorem sl_lt2 : 2 < sizeLine := by decide
theorem sl_le2 : 2 ≤ sizeLine := by decide
theorem sl_lt3 : 3 < sizeLine := by decide
theorem sl_le3 : 3 ≤ sizeLine := by decide
theorem sl_lt4 : 4 < sizeLine := by decide
theorem sl_le4 : 4 ≤ sizeLine := by decide
theorem sl_lt5 : 5 < sizeLine := by decide
theorem sl_le5 : 5 ≤ sizeLine := by decide
theorem sl_lt6 : 6 < sizeLine := by decide
theorem sl_le6 : 6 ≤ sizeLine := by decide
theorem sl_lt7 : 7 < sizeLine := by decide
theorem sl_le7 : 7 ≤ sizeLine := by decide
theorem sl_lt8 : 8 < sizeLine := by decide
theorem sl_le8 : 8 ≤ sizeLine := by decide
theorem sl_lt9 : 9 < sizeLine := by decide
theorem sl_le9 : 9 ≤ sizeLine := by decide
theorem sl_lt10 : 10 < sizeLine := by decide
theorem sl_le10 : 10 ≤ sizeLine := by decide
theorem sl_lt11 : 11 < sizeLine := by decide
theorem sl_le11 : 11 ≤ sizeLine := by decide
theorem sl_lt12 : 12 < sizeLine := by decide
theorem sl_le12 : 12 ≤ sizeLine := by decide
theorem oInF_str2 {f : Bool → Bool} {w a b : Str} {C : CH} {Q : Kv} : oInF f (.str w) (.tup [.str a, .str b]) C Q ↔ Q (.bl (f (decide (w = a) || decide (w = b)))) C := by
  have e : L2.inV (toV (.str w)) ([D.str a, D.str b].map toV) = (decide (w = a) || decide (w = b)) := by
    show ((L2.eqV (.str a) (.str w)) || ((L2.eqV (.str b) (.str w)) || false)) = _
    rw [Bool.or_false]
    have q : ∀ x : Str, L2.eqV (.str x) (.str w) = decide (w = x) := fun x => by
      by_cases h : w = x
      · subst h; simp [L2.eqV]
      · have h' : ¬ x = w := fun z => h z.symm
        simp [L2.eqV, h, h']
    rw [q, q]
  constructor
  · rintro ⟨ds, h1, _, _, h⟩
    rw [SqC_tup] at h1
    subst h1
    rw [e] at h
    exact h
  · intro h
    exact ⟨_, SqC_tup.mpr rfl, rfl, rfl, by rw [e]; exact h⟩
theorem rdSs_cons {G : G3} {ex : Kxs} {s : CS} {r : List CS} {D : EndsC} {σ : Env3} {C : CH} : rdSs G ex (s :: r) D σ C = rdS G ex s { D with nx := rdSs G ex r D } σ C := rfl
theorem rdSs_nil {G : G3} {ex : Kxs} {D : EndsC} {σ : Env3} {C : CH} : rdSs G ex [] D σ C = D.nx σ C := rfl
theorem rdS_while {G : G3} {ex : Kxs} {t : CE} {b : List CS} {D : EndsC} {σ : Env3} {C : CH} : rdS G ex (.whileS t b) D σ C = ∃ m, whileN (rdT G ex t) (rdSs G ex b) D m σ C := rfl
theorem isLst_of {C : CH} {p : Addr} {xs : List D} (h : C p = some (.lst xs)) : isLst (.ref p) C := ⟨p, xs, rfl, h⟩
theorem oAddA_int {i j : Int} {C : CH} {Q : Kv} : oAddA (.int i) (.int j) C Q ↔ Q (.int (i + j)) C := Iff.rfl
theorem oAddA_str {i j : Str} {C : CH} {Q : Kv} : oAddA (.str i) (.str j) C Q ↔ i.length + j.length ≤ sizeLine ∧ Q (.str (i ++ j)) C := Iff.rfl
theorem oAddA_tup {i j : List D} {C : CH} {Q : Kv} : oAddA (.tup i) (.tup j) C Q ↔ i.length + j.length ≤ sizeLine ∧ Q (.tup (i ++ j)) C := Iff.rfl
theorem oI2_int {P : Int → Int → Prop} {g : Int → Int → D} {i j : Int} {C : CH} {Q : Kv} : oI2 P g (.int i) (.int j) C Q ↔ P i j ∧ Q (g i j) C := Iff.rfl
theorem oMulA_int {i j : Int} {C : CH} {Q : Kv} : oMulA (.int i) (.int j) C Q ↔ CMul i j ∧ Q (.int (i * j)) C := Iff.rfl
theorem oMulA_lst {p : Addr} {k : Int} {C : CH} {Q : Kv} : oMulA (.ref p) (.int k) C Q ↔ ∃ xs, C p = some (.lst xs) ∧ -(2 ^ 63) ≤ k ∧ k < 2 ^ 63 ∧ xs.length * k.toNat ≤ sizeLine ∧ ∀ p, C p = none → Q (.ref p) (cup C p (.lst (List.replicate k.toNat xs).flatten)) := Iff.rfl
theorem oMulA_str {z : Str} {k : Int} {C : CH} {Q : Kv} : oMulA (.str z) (.int k) C Q ↔ 0 ≤ k ∧ k ≤ 10000 ∧ z.length ≤ 1000 ∧ Q (.str (repS z k.toNat)) C := Iff.rfl
theorem oMulA_tup {xs : List D} {k : Int} {C : CH} {Q : Kv} : oMulA (.tup xs) (.int k) C Q ↔ xs ≠ [] ∧ 0 ≤ k ∧ k ≤ 10000 ∧ xs.length ≤ 1000 ∧ Q (.tup (List.replicate k.toNat xs).flatten) C := Iff.rfl
theorem oIxA_tup {xs : List D} {i : Int} {C : CH} {Q : Kv} : oIxA (.tup xs) (.int i) C Q ↔ ∃ d, L2.atI xs i = some d ∧ Q d C := by
  show (∃ i' d, D.int i = .int i' ∧ L2.atI xs i' = some d ∧ Q d C) ↔ _
  simp
theorem oIxA_rls {xs : List D} {i : Int} {C : CH} {Q : Kv} : oIxA (.rls xs) (.int i) C Q ↔ ∃ d, L2.atI xs i = some d ∧ Q d C := by
  show (∃ i' d, D.int i = .int i' ∧ L2.atI xs i' = some d ∧ Q d C) ↔ _
  simp
theorem oIxA_str {z : Str} {i : Int} {C : CH} {Q : Kv} : oIxA (.str z) (.int i) C Q ↔ z.length ≤ sizeLine ∧ ∃ c, L2.atI z.cps.toList i = some c ∧ Q (.str ⟨#[c]⟩) C := by
  show (∃ i' c, D.int i = .int i' ∧ z.length ≤ sizeLine ∧ L2.atI z.cps.toList i' = some c ∧ Q (.str ⟨#[c]⟩) C) ↔ _
  simp
/-- an item of a list that is written, of a dict -/
theorem oIxA_lst {p : Addr} {xs : List D} {i : Int} {d : D} {C : CH} {Q : Kv} (h : C p = some (.lst xs)) (e : L2.atI xs i = some d) (q : Q d C) : oIxA (.ref p) (.int i) C Q := by
  unfold oIxA
  simp only [h]
  exact ⟨i, d, rfl, e, q⟩
theorem oSl_tup {xs : List D} {lo hi : Option Int} {C : CH} {Q : Kv} : oSl (.tup xs) lo hi C Q ↔ Q (.tup (cutD xs lo hi)) C := Iff.rfl
theorem oSl_str {z : Str} {lo hi : Option Int} {C : CH} {Q : Kv} : oSl (.str z) lo hi C Q ↔ z.length ≤ sizeLine ∧ Q (.str (cutS z lo hi)) C := Iff.rfl
theorem oEqN_int {f : Bool → Bool} {i j : Int} {C : CH} {Q : Kv} : oEqN f (.int i) (.int j) C Q ↔ Q (.bl (f (decide (i = j)))) C := by
  constructor
  · rintro ⟨p, q, h1, h2, _, _, h⟩
    cases h1; cases h2
    exact h
  · intro h
    exact ⟨_, _, .int i, .int j, rfl, rfl, h⟩
theorem oEqN_bl {f : Bool → Bool} {i j : Bool} {C : CH} {Q : Kv} : oEqN f (.bl i) (.bl j) C Q ↔ Q (.bl (f (i == j))) C := by
  constructor
  · rintro ⟨p, q, h1, h2, _, _, h⟩
    cases h1; cases h2
    exact h
  · intro h
    exact ⟨_, _, .bl i, .bl j, rfl, rfl, h⟩
theorem oEqN_strI {f : Bool → Bool} {i j : Str} {C : CH} {Q : Kv} (hi : PyData.strOk i = true) (hj : PyData.strOk j = true) : oEqN f (.str i) (.str j) C Q ↔ Q (.bl (f (decide (i = j)))) C := by
  have e : (PyData.eqv (.str i) (.str j)) = decide (i = j) := by
    show (i == j) = _
    by_cases h : i = j <;> simp [h]
  constructor
  · rintro ⟨p, q, h1, h2, _, _, h⟩
    cases h1; cases h2
    rw [e] at h
    exact h
  · intro h
    exact ⟨_, _, .str i, .str j, by simp [deepOk, PyData.canLay0, PyData.depth, hi], by simp [deepOk, PyData.canLay0, PyData.depth, hj], by rw [e]; exact h⟩
theorem k_NoneType_int : kitPlain.get (.inl "NoneType") (.inl "int") = some false := by decide +kernel
theorem k_bool_int : kitPlain.get (.inl "bool") (.inl "int") = some true := by decide +kernel
theorem k_int_int : kitPlain.get (.inl "int") (.inl "int") = some true := by decide +kernel
theorem k_str_int : kitPlain.get (.inl "str") (.inl "int") = some false := by decide +kernel
theorem k_tuple_int : kitPlain.get (.inl "tuple") (.inl "int") = some false := by decide +kernel
theorem k_list_int : kitPlain.get (.inl "list") (.inl "int") = some false := by decide +kernel
theorem k_dict_int : kitPlain.get (.inl "dict") (.inl "int") = some false := by decide +kernel
theorem k_NoneType_bool : kitPlain.get (.inl "NoneType") (.inl "bool") = some false := by decide +kernel
theorem k_bool_bool : kitPlain.get (.inl "bool") (.inl "bool") = some true := by decide +kernel
theorem k_int_bool : kitPlain.get (.inl "int") (.inl "bool") = some false := by decide +kernel
theorem k_str_bool : kitPlain.get (.inl "str") (.inl "bool") = some false := by decide +kernel
theorem k_tuple_bool : kitPlain.get (.inl "tuple") (.inl "bool") = some false := by decide +kernel
theorem k_list_bool : kitPlain.get (.inl "list") (.inl "bool") = some false := by decide +kernel
theorem k_dict_bool : kitPlain.get (.inl "dict") (.inl "bool") = some false := by decide +kernel
theorem k_NoneType_str : kitPlain.get (.inl "NoneType") (.inl "str") = some false := by decide +kernel
theorem k_bool_str : kitPlain.get (.inl "bool") (.inl "str") = some false := by decide +kernel
theorem k_int_str : kitPlain.get (.inl "int") (.inl "str") = some false := by decide +kernel
theorem k_str_str : kitPlain.get (.inl "str") (.inl "str") = some true := by decide +kernel
theorem k_tuple_str : kitPlain.get (.inl "tuple") (.inl "str") = some false := by decide +kernel
theorem k_list_str : kitPlain.get (.inl "list") (.inl "str") = some false := by decide +kernel
theorem k_dict_str : kitPlain.get (.inl "dict") (.inl "str") = some false := by decide +kernel
theorem k_NoneType_tuple : kitPlain.get (.inl "NoneType") (.inl "tuple") = some false := by decide +kernel
theorem k_bool_tuple : kitPlain.get (.inl "bool") (.inl "tuple") = some false := by decide +kernel
theorem k_int_tuple : kitPlain.get (.inl "int") (.inl "tuple") = some false := by decide +kernel
theorem k_str_tuple : kitPlain.get (.inl "str") (.inl "tuple") = some false := by decide +kernel
theorem k_tuple_tuple : kitPlain.get (.inl "tuple") (.inl "tuple") = some true := by decide +kernel
theorem k_list_tuple : kitPlain.get (.inl "list") (.inl "tuple") = some false := by decide +kernel
theorem k_dict_tuple : kitPlain.get (.inl "dict") (.inl "tuple") = some false := by decide +kernel
theorem k_NoneType_list : kitPlain.get (.inl "NoneType") (.inl "list") = some false := by decide +kernel
theorem k_bool_list : kitPlain.get (.inl "bool") (.inl "list") = some false := by decide +kernel
theorem k_int_list : kitPlain.get (.inl "int") (.inl "list") = some false := by decide +kernel
theorem k_str_list : kitPlain.get (.inl "str") (.inl "list") = some false := by decide +kernel
theorem k_tuple_list : kitPlain.get (.inl "tuple") (.inl "list") = some false := by decide +kernel
theorem k_list_list : kitPlain.get (.inl "list") (.inl "list") = some true := by decide +kernel
theorem k_dict_list : kitPlain.get (.inl "dict") (.inl "list") = some false := by decide +kernel
theorem len_cps (z : Str) : z.length = z.cps.toList.length := (Array.length_toList).symm
/-- a comprehension whose items are told by f, nothing is changed -/
theorem lcL_map {TT : CT} {vs : List Nat} {σ : Env3} {e : CTE} {G : CH → Prop} {Kq : List D → CH → Prop} (f : D → D) {C : CH} (hG : G C) : ∀ (ds acc : List D), (∀ d ∈ ds, ∃ σ2, bindT TT d (wipe3 σ vs) = some σ2 ∧ ∀ Q : Kv, Q (f d) C → e σ2 C Q) → acc.length + ds.length ≤ sizeLine → Kq (acc ++ ds.map f) C → lcL TT vs σ cYes e G Kq ds acc C
  | [], acc, _, _, h => ⟨hG, by simpa using h⟩
  | d :: ds, acc, h, hl, hk => by
    obtain ⟨σ2, e1, e2⟩ := h d List.mem_cons_self
    simp only [List.length_cons] at hl
    refine ⟨hG, σ2, e1, ?_⟩
    show e σ2 C _
    refine e2 _ ⟨by omega, lcL_map f hG ds (acc ++ [f d]) (fun d' hd => h d' (List.mem_cons_of_mem _ hd)) ?_ ?_⟩
    · rw [List.length_append]; simp only [List.length_cons, List.length_nil]; omega
    · simpa using hk
/-- all(..) of a new list of truths -/
theorem oAll_new {f : List Bool → D} {C : CH} {p : Addr} {bs : List Bool} {Q : Kv} {ds : List D} (e : ds = bs.map D.bl) (h : Q (f bs) (cup C p (.lst ds))) : oAll f [.ref p] (cup C p (.lst ds)) Q := ⟨p, bs, rfl, by rw [e]; exact cup_same, h⟩
theorem sub_new {C : CH} {p : Addr} {o : CO} (h : C p = none) : Sub C (cup C p o) := Sub.new h
theorem oMaxL1 {C : CH} {p : Addr} {i : Int} {Q : Kv} (h : C p = some (.lst [.int i])) (q : Q (.int i) C) : oMaxL [.ref p] C Q := ⟨p, [i], i, rfl, h, by simp, by simp, by simp, q⟩
theorem oMaxL2 {C : CH} {p : Addr} {i j : Int} {Q : Kv} (h : C p = some (.lst [.int i, .int j])) (q : Q (.int (if j > i then j else i)) C) : oMaxL [.ref p] C Q :=
  ⟨p, [i, j], _, rfl, h, by simp, by split <;> simp, fun y hy => by
    simp only [List.mem_cons, List.not_mem_nil, or_false] at hy
    rcases hy with rfl | rfl <;> split <;> omega, q⟩
theorem cutD_tail {x : D} {xs : List D} : cutD (x :: xs) (some 1) none = xs := by
  unfold cutD
  have e1 : HT.sIx (x :: xs).length 0 (some 1) = 1 := by simp [HT.sIx]
  have e2 : HT.sIx (x :: xs).length (x :: xs).length none = (x :: xs).length := by simp [HT.sIx]
  rw [e1, e2]
  simp
theorem sub_at {C0 C : CH} {p : Addr} {o : CO} (hp : C0 p = none) (hs : Sub C0 C) : Sub C0 (cup C p o) := fun a u h => by
  rw [cup_ne (fun z => by rw [z, hp] at h; cases h)]
  exact hs a u h
/-- a comprehension with a test -/
theorem lcL_if0 {α : Type} {TT : CT} {vs : List Nat} {σ : Env3} {tt : CTT} {e : CTE} {G : CH → Prop} {Kq : List D → CH → Prop} (g f : α → D) (p : α → Bool) {C : CH} (hG : G C) : ∀ (ts : List α) (acc : List D), (∀ t ∈ ts, ∃ σ2, bindT TT (g t) (wipe3 σ vs) = some σ2 ∧ (∀ Q : Bool → CH → Prop, Q (p t) C → tt σ2 C Q) ∧ ∀ Q : Kv, Q (f t) C → e σ2 C Q) → acc.length + ts.length ≤ sizeLine → Kq (acc ++ (ts.filter p).map f) C → lcL TT vs σ tt e G Kq (ts.map g) acc C
  | [], acc, _, _, h => ⟨hG, by simpa using h⟩
  | d :: ds, acc, h, hl, hk => by
    obtain ⟨σ2, e1, e2, e3⟩ := h d List.mem_cons_self
    simp only [List.length_cons] at hl
    refine ⟨hG, σ2, e1, e2 _ ?_⟩
    by_cases hp : p d = true
    · rw [if_pos hp]
      refine e3 _ ⟨by omega, lcL_if0 g f p hG ds (acc ++ [f d]) (fun d' hd => h d' (List.mem_cons_of_mem _ hd)) ?_ ?_⟩
      · rw [List.length_append]; simp only [List.length_cons, List.length_nil]; omega
      · simpa [hp] using hk
    · rw [if_neg hp]
      refine lcL_if0 g f p hG ds acc (fun d' hd => h d' (List.mem_cons_of_mem _ hd)) (by omega) ?_
      simpa [hp] using hk
theorem lcL_if {α : Type} {TT : CT} {vs : List Nat} {σ : Env3} {tt : CTT} {e : CTE} {G : CH → Prop} {Kq : List D → CH → Prop} (g f : α → D) (p : α → Bool) {C : CH} (hG : G C) (ts : List α) (h : ∀ t ∈ ts, ∃ σ2, bindT TT (g t) (wipe3 σ vs) = some σ2 ∧ (∀ Q : Bool → CH → Prop, Q (p t) C → tt σ2 C Q) ∧ ∀ Q : Kv, Q (f t) C → e σ2 C Q) (hl : ts.length ≤ sizeLine) (hk : Kq ((ts.filter p).map f) C) : lcL TT vs σ tt e G Kq (ts.map g) [] C :=
  lcL_if0 g f p hG ts [] h (by simpa using hl) (by simpa using hk)
/-- a comprehension whose items change the heap: J is kept, R is told of each item -/
theorem lcL_run {TT : CT} {vs : List Nat} {σ : Env3} {e : CTE} {G : CH → Prop} {Kq : List D → CH → Prop} (J : Nat → CH → Prop) (R : D → Prop) (hG : ∀ k C, J k C → G C) :
    ∀ (items acc : List D) (C : CH), J items.length C → (∀ d ∈ acc, R d) → acc.length + items.length ≤ sizeLine → (∀ acc' C', J 0 C' → acc'.length = acc.length + items.length → (∀ d ∈ acc', R d) → Kq acc' C') →
      (∀ d ∈ items, ∀ k C, J (k + 1) C → ∃ σ2, bindT TT d (wipe3 σ vs) = some σ2 ∧ ∀ Q : Kv, (∀ y C', R y → J k C' → Q y C') → e σ2 C Q) → lcL TT vs σ cYes e G Kq items acc C
  | [], acc, C, hJ, hR, hl, hK, h => ⟨hG _ _ hJ, hK acc C hJ rfl hR⟩
  | d :: ds, acc, C, hJ, hR, hl, hK, h => by
    obtain ⟨σ2, e1, e2⟩ := h d List.mem_cons_self ds.length C hJ
    simp only [List.length_cons] at hl hK
    refine ⟨hG _ _ hJ, σ2, e1, ?_⟩
    show e σ2 C _
    refine e2 _ fun y C' hy hJ' => ⟨by omega, lcL_run J R hG ds (acc ++ [y]) C' hJ' ?_ ?_ ?_ fun d' hd => h d' (List.mem_cons_of_mem _ hd)⟩
    · intro d' hd'
      rcases List.mem_append.mp hd' with hd' | hd'
      · exact hR d' hd'
      · rw [List.mem_singleton.mp hd']; exact hy
    · rw [List.length_append]; simp only [List.length_cons, List.length_nil]; omega
    · intro acc' C' hJ0 hla hRa
      refine hK acc' C' hJ0 ?_ hRa
      rw [hla, List.length_append]; simp only [List.length_cons, List.length_nil]; omega
end L3
namespace My
open PySem L3
open L2 (inClass defArgs defBody defScope)
noncomputable def top (i : Nat) : Stmt := PySem.Challenge.pw_loopforms_k01_values_measured.main.body.getD i (.Pass ⟨0, 0, 0, 0⟩)
noncomputable abbrev i_is_number : Nat := 0
noncomputable abbrev i_is_name : Nat := 1
noncomputable abbrev i_measured : Nat := 2
noncomputable abbrev i_sizes_of : Nat := 3
noncomputable abbrev i_height : Nat := 4
noncomputable abbrev i_highest : Nat := 5
noncomputable abbrev i_need_value : Nat := 6
noncomputable abbrev i_text_of : Nat := 7
noncomputable abbrev i_value_text : Nat := 8
noncomputable abbrev i_name_end : Nat := 9
noncomputable abbrev i_read_at : Nat := 10
noncomputable abbrev i_read_value : Nat := 11
noncomputable abbrev i__law_begin : Nat := 12
noncomputable abbrev i__law_mixed : Nat := 13
noncomputable abbrev i__law_take : Nat := 14
noncomputable abbrev i__law_pick : Nat := 15
noncomputable abbrev i__law_is_name : Nat := 16
noncomputable abbrev i__law_name : Nat := 17
noncomputable abbrev i__law_thing : Nat := 18
noncomputable abbrev i__law_text : Nat := 19
noncomputable abbrev i__law_odd : Nat := 20
noncomputable abbrev i__law_spoilt : Nat := 21
noncomputable abbrev i__law_sizes : Nat := 22
noncomputable abbrev i__law_told : Nat := 23
noncomputable abbrev i__law_right : Nat := 24
noncomputable abbrev i_law : Nat := 25
noncomputable abbrev c_NoText : Nat := 2
/-- is_number: slots 0=thing -/
noncomputable def b_is_number : List CS := [(.ret (.and (.isi (.inl "int") (.var 0)) (.not (.isi (.inl "bool") (.var 0)))))]
/-- is_name: slots 0=thing 1=sign -/
noncomputable def b_is_name : List CS := [(.ifS (.or (.not (.isi (.inl "str") (.var 0))) (.or (.not (.chain .le .le (.cst (.int 1)) (.bi .len [(.var 0)]) (.glb "MOST_SIGNS" (.int 8)))) (.cmp .notInS (.idx (.var 0) (.cst (.int 0))) (.glb "LETTERS" (.str "abcdefghijklmnopqrstuvwxyz"))))) [(.ret (.cst (.bl false)))] []), (.ret (.bi .all [(.lc (.cmp .inS (.var 1) (.glb "SIGNS" (.str "abcdefghijklmnopqrstuvwxyz0123456789"))) (.nm 1) [1] .txt [(.var 0)] [])]))]
/-- measured: slots 0=thing 1=room 2=parts 3=part -/
noncomputable def b_measured : List CS := [(.ifS (.call i_is_number 1 1 0 [.pos 0] [(.var 0)] []) [(.ret (.ite (.chain .le .le (.cst (.int 1)) (.var 0) (.glb "MOST_LEVEL" (.int 3))) (.tup [(.cst (.int 0)), (.var 0)]) (.cst .non)))] []), (.ifS (.or (.cmp .eq (.var 1) (.cst (.int 0))) (.or (.not (.isi (.inl "tuple") (.var 0))) (.or (.not (.chain .le .le (.cst (.int 2)) (.bi .len [(.var 0)]) (.cst (.int 3)))) (.not (.call i_is_name 1 1 0 [.pos 0] [(.idx (.var 0) (.cst (.int 0)))] []))))) [(.ret (.cst .non))] []), (.asg (.nm 2) (.lc (.call i_measured 2 2 0 [.pos 0, .pos 1] [(.var 3), (.bin .sub (.var 1) (.cst (.int 1)))] []) (.nm 3) [3] .seq [(.slice (.var 0) (some (.cst (.int 1))) none)] [])), (.ifS (.cmp .inD (.cst .non) (.var 2)) [(.ret (.cst .non))] []), (.ret (.tup [(.bin .add (.cst (.int 1)) (.bi .maxL [(.lc (.idx (.var 3) (.cst (.int 0))) (.nm 3) [3] .seq [(.var 2)] [])])), (.bi .maxL [(.lc (.idx (.var 3) (.cst (.int 1))) (.nm 3) [3] .seq [(.var 2)] [])])]))]
/-- sizes_of: slots 0=value 1=found -/
noncomputable def b_sizes_of : List CS := [(.asg (.nm 1) (.call i_measured 2 2 0 [.pos 0, .pos 1] [(.var 0), (.glb "MOST_HEIGHT" (.int 4))] [])), (.ifS (.cmp .is (.var 1) (.cst .non)) [(.raise 1)] []), (.ret (.var 1))]
/-- height: slots 0=value -/
noncomputable def b_height : List CS := [(.ret (.idx (.call i_sizes_of 1 1 0 [.pos 0] [(.var 0)] []) (.cst (.int 0))))]
/-- highest: slots 0=value -/
noncomputable def b_highest : List CS := [(.ret (.idx (.call i_sizes_of 1 1 0 [.pos 0] [(.var 0)] []) (.cst (.int 1))))]
/-- need_value: slots 0=value 1=level -/
noncomputable def b_need_value : List CS := [(.ifS (.cmp .gt (.call i_highest 1 1 0 [.pos 0] [(.var 0)] []) (.var 1)) [(.raise 1)] [])]
/-- text_of: slots 0=value 1=part -/
noncomputable def b_text_of : List CS := [(.ifS (.call i_is_number 1 1 0 [.pos 0] [(.var 0)] []) [(.ret (.fst [(.cst (.str "x")), (.fmt (.var 0))]))] []), (.ret (.bin .add (.bin .add (.bin .add (.idx (.var 0) (.cst (.int 0))) (.cst (.str "("))) (.mt .join (.cst (.str ", ")) [(.lc (.call i_text_of 1 1 0 [.pos 0] [(.var 1)] []) (.nm 1) [1] .seq [(.slice (.var 0) (some (.cst (.int 1))) none)] [])])) (.cst (.str ")"))))]
/-- value_text: slots 0=value -/
noncomputable def b_value_text : List CS := [(.expr (.call i_need_value 2 1 0 [.pos 0, .dfl (.int 3)] [(.var 0)] [])), (.ret (.call i_text_of 1 1 0 [.pos 0] [(.var 0)] []))]
/-- name_end: slots 0=text 1=at -/
noncomputable def b_name_end : List CS := [(.whileS (.and (.cmp .lt (.var 1) (.bi .len [(.var 0)])) (.cmp .inS (.idx (.var 0) (.var 1)) (.glb "SIGNS" (.str "abcdefghijklmnopqrstuvwxyz0123456789")))) [(.augN 1 .add (.cst (.int 1)))]), (.ret (.var 1))]
/-- read_at: slots 0=text 1=at 2=room 3=end 4=name 5=parts 6=found -/
noncomputable def b_read_at : List CS := [(.asg (.nm 3) (.call i_name_end 2 2 0 [.pos 0, .pos 1] [(.var 0), (.var 1)] [])), (.asg (.nm 4) (.slice (.var 0) (some (.var 1)) (some (.var 3)))), (.ifS (.cmp .ne (.slice (.var 0) (some (.var 3)) (some (.bin .add (.var 3) (.cst (.int 1))))) (.cst (.str "("))) [(.ret (.ite (.cmp .inF (.var 4) (.tup [(.cst (.str "x1")), (.cst (.str "x2")), (.cst (.str "x3"))])) (.tup [(.bi .intS [(.idx (.var 4) (.cst (.int 1)))]), (.var 3)]) (.cst .non)))] []), (.ifS (.or (.cmp .eq (.var 2) (.cst (.int 0))) (.not (.call i_is_name 1 1 0 [.pos 0] [(.var 4)] []))) [(.ret (.cst .non))] []), (.asg (.nm 5) (.lst [(.var 4)])), (.augN 3 .add (.cst (.int 1))), (.whileS (.cmp .lt (.bi .len [(.var 5)]) (.cst (.int 3))) [(.asg (.nm 6) (.call i_read_at 3 3 0 [.pos 0, .pos 1, .pos 2] [(.var 0), (.var 3), (.bin .sub (.var 2) (.cst (.int 1)))] [])), (.ifS (.cmp .is (.var 6) (.cst .non)) [(.ret (.cst .non))] []), (.expr (.mt .append (.var 5) [(.idx (.var 6) (.cst (.int 0)))])), (.asg (.nm 3) (.idx (.var 6) (.cst (.int 1)))), (.ifS (.cmp .ne (.slice (.var 0) (some (.var 3)) (some (.bin .add (.var 3) (.cst (.int 2))))) (.cst (.str ", "))) [(.ret (.ite (.cmp .eq (.slice (.var 0) (some (.var 3)) (some (.bin .add (.var 3) (.cst (.int 1))))) (.cst (.str ")"))) (.tup [(.bi .tuple [(.var 5)]), (.bin .add (.var 3) (.cst (.int 1)))]) (.cst .non)))] []), (.augN 3 .add (.cst (.int 2)))]), (.ret (.cst .non))]
/-- read_value: slots 0=text 1=found -/
noncomputable def b_read_value : List CS := [(.asg (.nm 1) (.ite (.isi (.inl "str") (.var 0)) (.call i_read_at 3 3 0 [.pos 0, .pos 1, .pos 2] [(.var 0), (.cst (.int 0)), (.glb "MOST_HEIGHT" (.int 4))] []) (.cst .non))), (.ifS (.or (.cmp .is (.var 1) (.cst .non)) (.cmp .ne (.idx (.var 1) (.cst (.int 1))) (.bi .len [(.var 0)]))) [(.raise 2)] []), (.ret (.idx (.var 1) (.cst (.int 0))))]
/-- _law_begin: slots 0=_law_script 1=_law_great 2=_law_cell -/
noncomputable def b__law_begin : List CS := [(.asg (.nm 1) (.lc (.bin .sub (.var 2) (.bin .pow (.cst (.int 10)) (.cst (.int 18)))) (.nm 2) [2] .seq [(.var 0)] [(.cmp .ge (.var 2) (.bin .pow (.cst (.int 10)) (.cst (.int 18))))])), (.ret (.dic [(.cst (.str "great")), (.cst (.str "cells")), (.cst (.str "left")), (.cst (.str "turn"))] [(.var 1), (.bi .list [(.var 0)]), (.cst (.int 0)), (.cst (.int 0))]))]
/-- _law_mixed: slots 0=_law_state 1=_law_turn 2=_law_found 3=_law_prime 4=_law_blend 5=_law_cell -/
noncomputable def b__law_mixed : List CS := [(.asg (.nm 1) (.bin .add (.idx (.var 0) (.cst (.str "turn"))) (.cst (.int 1)))), (.setI (.var 0) (.cst (.str "turn")) (.var 1)), (.asg (.nm 2) (.cst (.int 0))), (.forS (.nm 3) .seq [(.lst [(.cst (.int 2147483629)), (.cst (.int 2147483587)), (.cst (.int 2147483579)), (.cst (.int 2147483563)), (.cst (.int 2147483549))])] [(.asg (.nm 4) (.bin .add (.bin .mul (.cst (.int 90023)) (.var 1)) (.bin .fdiv (.var 3) (.cst (.int 17))))), (.forS (.nm 5) .seq [(.idx (.var 0) (.cst (.str "cells")))] [(.asg (.nm 4) (.bin .mod (.bi .int [(.bin .add (.bin .mul (.var 4) (.cst (.int 48271))) (.var 5))]) (.var 3)))]), (.asg (.nm 2) (.bin .add (.bin .mul (.var 2) (.cst (.int 2147483647))) (.bin .mod (.bi .int [(.bin .pow (.var 4) (.cst (.int 5)))]) (.var 3))))]), (.ret (.var 2))]
/-- _law_take: slots 0=_law_state 1=_law_size 2=_law_found -/
noncomputable def b__law_take : List CS := [(.ifS (.cmp .eq (.idx (.var 0) (.cst (.str "left"))) (.cst (.int 0))) [(.setI (.var 0) (.cst (.str "left")) (.ite (.cmp .ne (.idx (.var 0) (.cst (.str "great"))) (.lst [])) (.mt .popAt (.idx (.var 0) (.cst (.str "great"))) [(.cst (.int 0))]) (.call i__law_mixed 1 1 0 [.pos 0] [(.var 0)] [])))] []), (.asg (.nm 2) (.bin .mod (.bi .int [(.idx (.var 0) (.cst (.str "left")))]) (.var 1))), (.setI (.var 0) (.cst (.str "left")) (.bin .fdiv (.idx (.var 0) (.cst (.str "left"))) (.var 1))), (.ret (.var 2))]
/-- _law_pick: slots 0=_law_state 1=_law_some -/
noncomputable def b__law_pick : List CS := [(.ret (.idx (.var 1) (.call i__law_take 2 2 0 [.pos 0, .pos 1] [(.var 0), (.bi .len [(.var 1)])] [])))]
/-- _law_is_name: slots 0=_law_matter 1=_law_letters 2=_law_sign -/
noncomputable def b__law_is_name : List CS := [(.asg (.nm 1) (.cst (.str "abcdefghijklmnopqrstuvwxyz"))), (.ifS (.or (.not (.isi (.inl "str") (.var 0))) (.or (.not (.chain .le .le (.cst (.int 1)) (.bi .len [(.var 0)]) (.cst (.int 8)))) (.cmp .notInS (.idx (.var 0) (.cst (.int 0))) (.var 1)))) [(.ret (.cst (.bl false)))] []), (.ret (.cmp .eq (.lc (.var 2) (.nm 2) [2] .txt [(.var 0)] [(.cmp .notInS (.var 2) (.bin .add (.var 1) (.cst (.str "0123456789"))))]) (.lst [])))]
/-- _law_name: slots 0=_law_state 1=_law_letters 2=_law_size 3=_law_k -/
noncomputable def b__law_name : List CS := [(.asg (.tp [1, 2]) (.tup [(.cst (.str "abcdefghijklmnopqrstuvwxyz")), (.call i__law_pick 2 2 0 [.pos 0, .pos 1] [(.var 0), (.lst [(.cst (.int 1)), (.cst (.int 1)), (.cst (.int 2)), (.cst (.int 3)), (.cst (.int 8))])] [])])), (.ret (.bin .add (.call i__law_pick 2 2 0 [.pos 0, .pos 1] [(.var 0), (.var 1)] []) (.mt .join (.cst (.str "")) [(.lc (.call i__law_pick 2 2 0 [.pos 0, .pos 1] [(.var 0), (.bin .add (.var 1) (.cst (.str "0123456789")))] []) (.nm 3) [3] .rg1 [(.bin .sub (.var 2) (.cst (.int 1)))] [])])))]
/-- _law_thing: slots 0=_law_state 1=_law_room 2=_law_parts 3=_law_k -/
noncomputable def b__law_thing : List CS := [(.ifS (.or (.cmp .eq (.var 1) (.cst (.int 0))) (.cmp .eq (.call i__law_take 2 2 0 [.pos 0, .pos 1] [(.var 0), (.cst (.int 4))] []) (.cst (.int 0)))) [(.ret (.bin .add (.cst (.int 1)) (.call i__law_take 2 2 0 [.pos 0, .pos 1] [(.var 0), (.cst (.int 3))] [])))] []), (.asg (.nm 2) (.lc (.call i__law_thing 2 2 0 [.pos 0, .pos 1] [(.var 0), (.bin .sub (.var 1) (.cst (.int 1)))] []) (.nm 3) [3] .rg1 [(.bin .add (.cst (.int 1)) (.call i__law_take 2 2 0 [.pos 0, .pos 1] [(.var 0), (.cst (.int 2))] []))] [])), (.ret (.bin .add (.tup [(.call i__law_name 1 1 0 [.pos 0] [(.var 0)] [])]) (.bi .tuple [(.var 2)])))]
/-- _law_text: slots 0=_law_figure 1=_law_part -/
noncomputable def b__law_text : List CS := [(.ifS (.isi (.inl "int") (.var 0)) [(.ret (.bin .add (.cst (.str "x")) (.bi .str [(.var 0)])))] []), (.ret (.bin .add (.bin .add (.bin .add (.idx (.var 0) (.cst (.int 0))) (.cst (.str "("))) (.mt .join (.cst (.str ", ")) [(.lc (.call i__law_text 1 1 0 [.pos 0] [(.var 1)] []) (.nm 1) [1] .seq [(.slice (.var 0) (some (.cst (.int 1))) none)] [])])) (.cst (.str ")"))))]
/-- _law_odd: slots 0=_law_state 1=_law_matter 2=_law_some -/
noncomputable def b__law_odd : List CS := [(.ifS (.isi (.inl "str") (.var 1)) [(.asg (.nm 2) (.lst [(.cst (.str "")), (.cst (.str "A")), (.cst (.str "9a")), (.cst (.str "abcdefghi")), (.cst (.str "abcdefgh")), (.cst (.str "a_")), (.cst (.str "a b")), (.cst (.str "x1")), (.cst (.str "z9")), (.cst .non), (.cst (.int 1)), (.tup [(.cst (.str "a"))]), (.lst [(.cst (.str "a"))]), (.cst (.bl true))])), (.ret (.call i__law_pick 2 2 0 [.pos 0, .pos 1] [(.var 0), (.var 2)] []))] []), (.ifS (.isi (.inl "tuple") (.var 1)) [(.asg (.nm 2) (.lst [(.bi .list [(.var 1)]), (.slice (.var 1) none (some (.neg (.cst (.int 1))))), (.bin .add (.var 1) (.tup [(.cst (.int 1))])), (.bin .add (.slice (.var 1) none (some (.cst (.int 1)))) (.var 1)), (.tup []), (.slice (.var 1) (some (.cst (.int 1))) none), (.tup [(.var 1)]), (.dic [(.cst (.str "f"))] [(.cst (.int 1))])])), (.ret (.call i__law_pick 2 2 0 [.pos 0, .pos 1] [(.var 0), (.bin .add (.var 2) (.lst [(.slice (.var 1) none (some (.cst (.int 2)))), (.bin .add (.slice (.var 1) none (some (.cst (.int 1)))) (.tup [(.var 1), (.cst (.int 1))])), (.cst (.str "f(x1)"))]))] []))] []), (.asg (.nm 2) (.lst [(.cst (.int 0)), (.cst (.int 4)), (.neg (.cst (.int 1))), (.cst (.bl true)), (.cst (.bl false)), (.cst .non), (.cst (.str "x1")), (.cst (.str "a")), (.bin .pow (.cst (.int 10)) (.cst (.int 30))), (.tup []), (.lst []), .dic0, (.lst [(.cst (.int 1))]), (.tup [(.cst (.int 1))]), (.cst (.int 1)), (.cst (.int 2)), (.cst (.int 3)), (.tup [(.cst (.str "f")), (.cst (.bl true))]), (.tup [(.cst (.str "f")), (.cst (.int 2))])])), (.ret (.call i__law_pick 2 2 0 [.pos 0, .pos 1] [(.var 0), (.var 2)] []))]
/-- _law_spoilt: slots 0=_law_state 1=_law_matter 2=_law_at -/
noncomputable def b__law_spoilt : List CS := [(.ifS (.and (.isi (.inl "tuple") (.var 1)) (.and (.cmp .neU (.var 1) (.tup [])) (.cmp .gt (.call i__law_take 2 2 0 [.pos 0, .pos 1] [(.var 0), (.cst (.int 4))] []) (.cst (.int 0))))) [(.asg (.nm 2) (.call i__law_take 2 2 0 [.pos 0, .pos 1] [(.var 0), (.bi .len [(.var 1)])] [])), (.ret (.bin .add (.bin .add (.slice (.var 1) none (some (.var 2))) (.tup [(.call i__law_spoilt 2 2 0 [.pos 0, .pos 1] [(.var 0), (.idx (.var 1) (.var 2))] [])])) (.slice (.var 1) (some (.bin .add (.var 2) (.cst (.int 1)))) none)))] []), (.ret (.ite (.cmp .neU (.var 1) (.tup [])) (.call i__law_odd 2 2 0 [.pos 0, .pos 1] [(.var 0), (.var 1)] []) (.cst (.int 1))))]
/-- _law_sizes: slots 0=_law_matter 1=_law_parts 2=_law_part -/
noncomputable def b__law_sizes : List CS := [(.ifS (.isi (.inl "int") (.var 0)) [(.ret (.ite (.or (.isi (.inl "bool") (.var 0)) (.not (.chain .le .le (.cst (.int 1)) (.var 0) (.cst (.int 3))))) (.cst .non) (.tup [(.cst (.int 0)), (.var 0)])))] []), (.ifS (.or (.not (.isi (.inl "tuple") (.var 0))) (.or (.cmp .notInF (.bi .len [(.var 0)]) (.tup [(.cst (.int 2)), (.cst (.int 3))])) (.not (.call i__law_is_name 1 1 0 [.pos 0] [(.idx (.var 0) (.cst (.int 0)))] [])))) [(.ret (.cst .non))] []), (.asg (.nm 1) (.lc (.call i__law_sizes 1 1 0 [.pos 0] [(.var 2)] []) (.nm 2) [2] .seq [(.slice (.var 0) (some (.cst (.int 1))) none)] [])), (.ifS (.cmp .inD (.cst .non) (.var 1)) [(.ret (.cst .non))] []), (.ret (.tup [(.bin .add (.cst (.int 1)) (.bi .maxL [(.lc (.idx (.var 2) (.cst (.int 0))) (.nm 2) [2] .seq [(.var 1)] [])])), (.bi .maxL [(.lc (.idx (.var 2) (.cst (.int 1))) (.nm 2) [2] .seq [(.var 1)] [])])]))]
/-- _law_told: slots 0=_law_work 1=e 2=_law_found 3=_law_error -/
noncomputable def b__law_told : List CS := [(.asg (.tp [2, 3]) (.tup [(.cst .non), (.cst .non)])), (.tryL [1] 1 (.asg 2) [(.asg (.nm 3) (.var 1))] [(.ifS (.cmp .is (.var 3) (.cst .non)) [(.ret (.var 2))] []), .never] [(.skip (.cmp .is (.var 3) (.cst .non))), (.ret (.ite (.and2 (.isx [(1, true)] (.inr 0) 3) (.not (.isx [(1, false)] (.inr 2) 3))) (.leaf (.cst (.str "refused"))) (.leaf (.cst (.str "other")))))])]
/-- _law_right: slots 0=_law_matter 1=_law_sizes_here 2=_law_good 3=_law_told_here 4=_law_text_here 5=_law_tier -/
noncomputable def b__law_right : List CS := [(.asg (.nm 1) (.call i__law_sizes 1 1 0 [.pos 0] [(.var 0)] [])), (.asg (.nm 2) (.and (.cmp .isNot (.var 1) (.cst .non)) (.cmp .le (.idx (.var 1) (.cst (.int 0))) (.cst (.int 4))))), (.asg (.nm 3) (.lst [(.lam 23 (.call i_height 1 1 0 [.pos 0] [(.var 0)] []))])), (.expr (.mt .append (.var 3) [(.lam 23 (.call i_height 1 0 1 [.kw 0] [] [(.var 0)]))])), (.ifS (.cmp .ne (.bi .repr [(.var 3)]) (.bi .repr [(.bin .mul (.lst [(.ite (.var 2) (.idx (.var 1) (.cst (.int 0))) (.cst (.str "refused")))]) (.cst (.int 2)))])) [(.ret (.cst (.bl false)))] []), (.asg (.nm 3) (.lst [(.lam 23 (.call i_need_value 2 2 0 [.pos 0, .pos 1] [(.var 0), (.cst (.int 1))] []))])), (.expr (.mt .append (.var 3) [(.lam 23 (.call i_need_value 2 0 2 [.kw 1, .kw 0] [] [(.cst (.int 2)), (.var 0)]))])), (.expr (.mt .append (.var 3) [(.lam 23 (.call i_need_value 2 1 1 [.pos 0, .kw 0] [(.var 0)] [(.cst (.int 3))]))])), (.expr (.mt .append (.var 3) [(.lam 23 (.call i_need_value 2 0 1 [.kw 0, .dfl (.int 3)] [] [(.var 0)]))])), (.ifS (.cmp .ne (.var 3) (.lc (.ite (.and (.var 2) (.cmp .le (.idx (.var 1) (.cst (.int 1))) (.var 5))) (.cst .non) (.cst (.str "refused"))) (.nm 5) [5] .seq [(.tup [(.cst (.int 1)), (.cst (.int 2)), (.cst (.int 3)), (.cst (.int 3))])] [])) [(.ret (.cst (.bl false)))] []), (.asg (.nm 4) (.lam 23 (.call i_value_text 1 1 0 [.pos 0] [(.var 0)] []))), (.ifS (.not (.var 2)) [(.ret (.and (.cmp .eq (.var 4) (.cst (.str "refused"))) (.cmp .eq (.lam 23 (.call i_value_text 1 0 1 [.kw 0] [] [(.var 0)])) (.cst (.str "refused")))))] []), (.ret (.and (.cmp .eq (.var 4) (.call i__law_text 1 1 0 [.pos 0] [(.var 0)] [])) (.cmp .eq (.bi .repr [(.call i_read_value 1 1 0 [.pos 0] [(.var 4)] [])]) (.bi .repr [(.var 0)]))))]
/-- law: slots 0=_law_script 1=_law_state 2=_law_turn 3=_law_k 4=_law_odd_here 5=_law_matter 6=_law_change 7=_law_nest 8=_law_row 9=_law_great -/
noncomputable def b_law : List CS := [(.asg (.nm 1) (.call i__law_begin 1 1 0 [.pos 0] [(.var 0)] [])), (.forS (.nm 2) .rg1 [(.bin .add (.cst (.int 4)) (.bi .min2 [(.bi .len [(.var 0)]), (.cst (.int 12))]))] [(.asg (.nm 5) (.call i__law_thing 2 2 0 [.pos 0, .pos 1] [(.var 1), (.call i__law_pick 2 2 0 [.pos 0, .pos 1] [(.var 1), (.lst [(.cst (.int 0)), (.cst (.int 1)), (.cst (.int 2)), (.cst (.int 3)), (.cst (.int 4)), (.cst (.int 4)), (.cst (.int 5)), (.cst (.int 6))])] [])] [])), (.forS (.nm 6) .rg1 [(.call i__law_pick 2 2 0 [.pos 0, .pos 1] [(.var 1), (.lst [(.cst (.int 0)), (.cst (.int 0)), (.cst (.int 0)), (.cst (.int 1)), (.cst (.int 2))])] [])] [(.asg (.nm 5) (.call i__law_spoilt 2 2 0 [.pos 0, .pos 1] [(.var 1), (.var 5)] []))]), (.ifS (.not (.call i__law_right 1 1 0 [.pos 0] [(.var 5)] [])) [(.ret (.cst (.bl false)))] [])]), (.par3 7 8 9 (.cst (.int 1)) (.lst [(.cst (.int 1))]) (.cst (.int 7))), (.forS (.nm 3) .rg1 [(.cst (.int 249))] [(.par 7 8 (.tup [(.cst (.str "f")), (.var 7)]) (.lst [(.var 8)]))]), (.forS (.nm 3) .rg1 [(.cst (.int 120))] [(.asg (.nm 9) (.bin .mulX (.var 9) (.bin .pow (.cst (.int 10)) (.cst (.int 33)))))]), (.asg (.nm 4) (.lst [(.cst .non), (.cst (.bl true)), (.cst (.bl false)), (.cst (.int 0)), (.cst (.int 4)), (.cst (.str "")), (.cst (.str "x1")), (.cst (.str "f(x1)")), (.lst []), .dic0, (.tup []), (.tup [(.cst (.str "f"))]), (.tup [(.cst (.str "f")), (.cst (.int 1)), (.cst (.int 2)), (.cst (.int 3))]), (.lst [(.cst (.str "f")), (.cst (.int 1))]), (.tup [(.cst (.int 1)), (.cst (.str "f"))]), (.tup [(.cst (.int 1)), (.cst (.int 1))])])), (.asg (.nm 4) (.bin .add (.var 4) (.lst [(.tup [(.cst (.str "f")), (.cst (.bl true))]), (.tup [(.cst (.str "f")), (.cst (.int 1)), (.cst (.bl false))]), (.tup [(.cst (.str "f")), (.lst [(.cst (.int 1))])]), (.tup [(.tup [(.cst (.str "f")), (.cst (.int 1))]), (.cst (.int 1))]), (.var 9), (.tup [(.cst (.str "f")), (.var 9)]), (.var 7), (.var 8)]))), (.ret (.cmp .eq (.lc (.var 5) (.nm 5) [5] .seq [(.var 4)] [(.not (.call i__law_right 1 1 0 [.pos 0] [(.var 5)] []))]) (.lst [])))]
noncomputable def prog : Prog3 := [(0, ⟨1, 1, b_is_number⟩), (1, ⟨1, 2, b_is_name⟩), (2, ⟨2, 4, b_measured⟩), (3, ⟨1, 2, b_sizes_of⟩), (4, ⟨1, 1, b_height⟩), (5, ⟨1, 1, b_highest⟩), (6, ⟨2, 2, b_need_value⟩), (7, ⟨1, 2, b_text_of⟩), (8, ⟨1, 1, b_value_text⟩), (9, ⟨2, 2, b_name_end⟩), (10, ⟨3, 7, b_read_at⟩), (11, ⟨1, 2, b_read_value⟩), (12, ⟨1, 3, b__law_begin⟩), (13, ⟨1, 6, b__law_mixed⟩), (14, ⟨2, 3, b__law_take⟩), (15, ⟨2, 2, b__law_pick⟩), (16, ⟨1, 3, b__law_is_name⟩), (17, ⟨1, 4, b__law_name⟩), (18, ⟨2, 4, b__law_thing⟩), (19, ⟨1, 2, b__law_text⟩), (20, ⟨2, 3, b__law_odd⟩), (21, ⟨2, 3, b__law_spoilt⟩), (22, ⟨1, 3, b__law_sizes⟩), (23, ⟨1, 4, b__law_told⟩), (24, ⟨1, 6, b__law_right⟩), (25, ⟨1, 10, b_law⟩)]
noncomputable abbrev Sh (f n : Nat) (ks : List Str) (np : Nat) (g : List Src) : (Nat × Nat × List Str) × (Nat × List Src) := ((f, n, ks), (np, g))
noncomputable abbrev s24 : Stmt := top 35
noncomputable def L : TabL where
  fn := [(("is_number" : Str), 0), (("is_name" : Str), 1), (("measured" : Str), 2), (("sizes_of" : Str), 3), (("height" : Str), 4), (("highest" : Str), 5), (("need_value" : Str), 6), (("text_of" : Str), 7), (("value_text" : Str), 8), (("name_end" : Str), 9), (("read_at" : Str), 10), (("read_value" : Str), 11), (("_law_begin" : Str), 12), (("_law_mixed" : Str), 13), (("_law_take" : Str), 14), (("_law_pick" : Str), 15), (("_law_is_name" : Str), 16), (("_law_name" : Str), 17), (("_law_thing" : Str), 18), (("_law_text" : Str), 19), (("_law_odd" : Str), 20), (("_law_spoilt" : Str), 21), (("_law_sizes" : Str), 22), (("_law_right" : Str), 24)]
  cls := [("LoopError", 0), ("NoValue", 1), ("NoText", 2)]
  glb := [("LETTERS", (.str "abcdefghijklmnopqrstuvwxyz")), ("MOST_HEIGHT", (.int 4)), ("MOST_LEVEL", (.int 3)), ("MOST_SIGNS", (.int 8)), ("SIGNS", (.str "abcdefghijklmnopqrstuvwxyz0123456789"))]
  blt := ["all", "bool", "int", "isinstance", "len", "list", "max", "min", "range", "repr", "str", "tuple"]
  shape := [Sh 0 1 [] 1 [.pos 0], Sh 1 1 [] 1 [.pos 0], Sh 2 2 [] 2 [.pos 0, .pos 1], Sh 3 1 [] 1 [.pos 0], Sh 4 0 ["value"] 1 [.kw 0], Sh 4 1 [] 1 [.pos 0], Sh 5 1 [] 1 [.pos 0], Sh 6 0 ["level", "value"] 2 [.kw 1, .kw 0], Sh 6 0 ["value"] 2 [.kw 0, .dfl (.int 3)], Sh 6 1 [] 2 [.pos 0, .dfl (.int 3)], Sh 6 1 ["level"] 2 [.pos 0, .kw 0], Sh 6 2 [] 2 [.pos 0, .pos 1], Sh 7 1 [] 1 [.pos 0], Sh 8 0 ["value"] 1 [.kw 0], Sh 8 1 [] 1 [.pos 0], Sh 9 2 [] 2 [.pos 0, .pos 1], Sh 10 3 [] 3 [.pos 0, .pos 1, .pos 2], Sh 11 1 [] 1 [.pos 0], Sh 12 1 [] 1 [.pos 0], Sh 13 1 [] 1 [.pos 0], Sh 14 2 [] 2 [.pos 0, .pos 1], Sh 15 2 [] 2 [.pos 0, .pos 1], Sh 16 1 [] 1 [.pos 0], Sh 17 1 [] 1 [.pos 0], Sh 18 2 [] 2 [.pos 0, .pos 1], Sh 19 1 [] 1 [.pos 0], Sh 20 2 [] 2 [.pos 0, .pos 1], Sh 21 2 [] 2 [.pos 0, .pos 1], Sh 22 1 [] 1 [.pos 0], Sh 24 1 [] 1 [.pos 0]]
  init := []
  own := []
  ownL := []
  ownB := []
  xcl := [1]
  xkit := [((1, (.inr 0)), true), ((1, (.inr 2)), false)]
  mth := []
  attr := []
  exc := [1, 2]
  tch := [("NoValue", [1])]
  gdc := []
  lamD := [("_law_told", 23)]
  lamS := [(defScope s24).names]
  lamM := [(24, 0)]
noncomputable abbrev kit : Kit := kitPlain
noncomputable abbrev s0 : Stmt := top 10
noncomputable def d0 : DefT := ⟨0, "is_number", "is_number", s0, ["thing"], ["thing"], 60⟩
theorem ok0 : d0.ok L.tab prog = true := by decide +kernel
noncomputable abbrev s1 : Stmt := top 11
noncomputable def d1 : DefT := ⟨1, "is_name", "is_name", s1, ["thing", "sign"], ["thing"], 60⟩
theorem ok1 : d1.ok L.tab prog = true := by decide +kernel
noncomputable abbrev s2 : Stmt := top 12
noncomputable def d2 : DefT := ⟨2, "measured", "measured", s2, ["thing", "room", "parts", "part"], ["thing", "room"], 60⟩
theorem ok2 : d2.ok L.tab prog = true := by decide +kernel
noncomputable abbrev s3 : Stmt := top 13
noncomputable def d3 : DefT := ⟨3, "sizes_of", "sizes_of", s3, ["value", "found"], ["value"], 60⟩
theorem ok3 : d3.ok L.tab prog = true := by decide +kernel
noncomputable abbrev s4 : Stmt := top 14
noncomputable def d4 : DefT := ⟨4, "height", "height", s4, ["value"], ["value"], 60⟩
theorem ok4 : d4.ok L.tab prog = true := by decide +kernel
noncomputable abbrev s5 : Stmt := top 15
noncomputable def d5 : DefT := ⟨5, "highest", "highest", s5, ["value"], ["value"], 60⟩
theorem ok5 : d5.ok L.tab prog = true := by decide +kernel
noncomputable abbrev s6 : Stmt := top 16
noncomputable def d6 : DefT := ⟨6, "need_value", "need_value", s6, ["value", "level"], ["value", "level"], 60⟩
theorem ok6 : d6.ok L.tab prog = true := by decide +kernel
noncomputable abbrev s7 : Stmt := top 17
noncomputable def d7 : DefT := ⟨7, "text_of", "text_of", s7, ["value", "part"], ["value"], 60⟩
theorem ok7 : d7.ok L.tab prog = true := by decide +kernel
noncomputable abbrev s8 : Stmt := top 18
noncomputable def d8 : DefT := ⟨8, "value_text", "value_text", s8, ["value"], ["value"], 60⟩
theorem ok8 : d8.ok L.tab prog = true := by decide +kernel
noncomputable abbrev s9 : Stmt := top 19
noncomputable def d9 : DefT := ⟨9, "name_end", "name_end", s9, ["text", "at"], ["text", "at"], 60⟩
theorem ok9 : d9.ok L.tab prog = true := by decide +kernel
noncomputable abbrev s10 : Stmt := top 20
noncomputable def d10 : DefT := ⟨10, "read_at", "read_at", s10, ["text", "at", "room", "end", "name", "parts", "found"], ["text", "at", "room"], 60⟩
theorem ok10 : d10.ok L.tab prog = true := by decide +kernel
noncomputable abbrev s11 : Stmt := top 21
noncomputable def d11 : DefT := ⟨11, "read_value", "read_value", s11, ["text", "found"], ["text"], 60⟩
theorem ok11 : d11.ok L.tab prog = true := by decide +kernel
noncomputable abbrev s12 : Stmt := top 23
noncomputable def d12 : DefT := ⟨12, "_law_begin", "_law_begin", s12, ["_law_script", "_law_great", "_law_cell"], ["_law_script"], 60⟩
theorem ok12 : d12.ok L.tab prog = true := by decide +kernel
noncomputable abbrev s13 : Stmt := top 24
noncomputable def d13 : DefT := ⟨13, "_law_mixed", "_law_mixed", s13, ["_law_state", "_law_turn", "_law_found", "_law_prime", "_law_blend", "_law_cell"], ["_law_state"], 60⟩
theorem ok13 : d13.ok L.tab prog = true := by decide +kernel
noncomputable abbrev s14 : Stmt := top 25
noncomputable def d14 : DefT := ⟨14, "_law_take", "_law_take", s14, ["_law_state", "_law_size", "_law_found"], ["_law_state", "_law_size"], 60⟩
theorem ok14 : d14.ok L.tab prog = true := by decide +kernel
noncomputable abbrev s15 : Stmt := top 26
noncomputable def d15 : DefT := ⟨15, "_law_pick", "_law_pick", s15, ["_law_state", "_law_some"], ["_law_state", "_law_some"], 60⟩
theorem ok15 : d15.ok L.tab prog = true := by decide +kernel
noncomputable abbrev s16 : Stmt := top 27
noncomputable def d16 : DefT := ⟨16, "_law_is_name", "_law_is_name", s16, ["_law_matter", "_law_letters", "_law_sign"], ["_law_matter"], 60⟩
theorem ok16 : d16.ok L.tab prog = true := by decide +kernel
noncomputable abbrev s17 : Stmt := top 28
noncomputable def d17 : DefT := ⟨17, "_law_name", "_law_name", s17, ["_law_state", "_law_letters", "_law_size", "_law_k"], ["_law_state"], 60⟩
theorem ok17 : d17.ok L.tab prog = true := by decide +kernel
noncomputable abbrev s18 : Stmt := top 29
noncomputable def d18 : DefT := ⟨18, "_law_thing", "_law_thing", s18, ["_law_state", "_law_room", "_law_parts", "_law_k"], ["_law_state", "_law_room"], 60⟩
theorem ok18 : d18.ok L.tab prog = true := by decide +kernel
noncomputable abbrev s19 : Stmt := top 30
noncomputable def d19 : DefT := ⟨19, "_law_text", "_law_text", s19, ["_law_figure", "_law_part"], ["_law_figure"], 60⟩
theorem ok19 : d19.ok L.tab prog = true := by decide +kernel
noncomputable abbrev s20 : Stmt := top 31
noncomputable def d20 : DefT := ⟨20, "_law_odd", "_law_odd", s20, ["_law_state", "_law_matter", "_law_some"], ["_law_state", "_law_matter"], 60⟩
theorem ok20 : d20.ok L.tab prog = true := by decide +kernel
noncomputable abbrev s21 : Stmt := top 32
noncomputable def d21 : DefT := ⟨21, "_law_spoilt", "_law_spoilt", s21, ["_law_state", "_law_matter", "_law_at"], ["_law_state", "_law_matter"], 60⟩
theorem ok21 : d21.ok L.tab prog = true := by decide +kernel
noncomputable abbrev s22 : Stmt := top 33
noncomputable def d22 : DefT := ⟨22, "_law_sizes", "_law_sizes", s22, ["_law_matter", "_law_parts", "_law_part"], ["_law_matter"], 60⟩
theorem ok22 : d22.ok L.tab prog = true := by decide +kernel
noncomputable abbrev s23 : Stmt := top 34
noncomputable def d23 : DefT := ⟨23, "_law_told", "_law_told", s23, ["_law_work", "e", "_law_found", "_law_error"], ["_law_work"], 60⟩
theorem ok23 : d23.ok L.tab prog = true := by decide +kernel
noncomputable def d24 : DefT := ⟨24, "_law_right", "_law_right", s24, ["_law_matter", "_law_sizes_here", "_law_good", "_law_told_here", "_law_text_here", "_law_tier"], ["_law_matter"], 60⟩
theorem ok24 : d24.ok L.tab prog = true := by decide +kernel
noncomputable abbrev s25 : Stmt := top 36
noncomputable def d25 : DefT := ⟨25, "law", "law", s25, ["_law_script", "_law_state", "_law_turn", "_law_k", "_law_odd_here", "_law_matter", "_law_change", "_law_nest", "_law_row", "_law_great"], ["_law_script"], 60⟩
theorem ok25 : d25.ok L.tab prog = true := by decide +kernel
noncomputable abbrev W := wpN prog kit.get
noncomputable abbrev GG (n : Nat) : G3 := gN prog kit.get n
theorem GG_kit (n : Nat) : (GG n).kit = kitPlain.get := rfl
theorem GG_call (n f : Nat) : (GG n).call f = W n f := rfl
theorem W_is_number (n : Nat) (x0 : D) (C : CH) (Q : Kv) (E : Kx) : W (n + 1) i_is_number [x0] C Q E = rdSs (GG n) (exN E) b_is_number (endN Q) [some x0] C := by
  rw [W, wpN_eq _ _ _ _ _ _ _ _ ⟨1, 1, b_is_number⟩ rfl rfl]; rfl
theorem W_is_name (n : Nat) (x0 : D) (C : CH) (Q : Kv) (E : Kx) : W (n + 1) i_is_name [x0] C Q E = rdSs (GG n) (exN E) b_is_name (endN Q) [some x0, none] C := by
  rw [W, wpN_eq _ _ _ _ _ _ _ _ ⟨1, 2, b_is_name⟩ rfl rfl]; rfl
theorem W_measured (n : Nat) (x0 x1 : D) (C : CH) (Q : Kv) (E : Kx) : W (n + 1) i_measured [x0, x1] C Q E = rdSs (GG n) (exN E) b_measured (endN Q) [some x0, some x1, none, none] C := by
  rw [W, wpN_eq _ _ _ _ _ _ _ _ ⟨2, 4, b_measured⟩ rfl rfl]; rfl
theorem W_sizes_of (n : Nat) (x0 : D) (C : CH) (Q : Kv) (E : Kx) : W (n + 1) i_sizes_of [x0] C Q E = rdSs (GG n) (exN E) b_sizes_of (endN Q) [some x0, none] C := by
  rw [W, wpN_eq _ _ _ _ _ _ _ _ ⟨1, 2, b_sizes_of⟩ rfl rfl]; rfl
theorem W_height (n : Nat) (x0 : D) (C : CH) (Q : Kv) (E : Kx) : W (n + 1) i_height [x0] C Q E = rdSs (GG n) (exN E) b_height (endN Q) [some x0] C := by
  rw [W, wpN_eq _ _ _ _ _ _ _ _ ⟨1, 1, b_height⟩ rfl rfl]; rfl
theorem W_highest (n : Nat) (x0 : D) (C : CH) (Q : Kv) (E : Kx) : W (n + 1) i_highest [x0] C Q E = rdSs (GG n) (exN E) b_highest (endN Q) [some x0] C := by
  rw [W, wpN_eq _ _ _ _ _ _ _ _ ⟨1, 1, b_highest⟩ rfl rfl]; rfl
theorem W_need_value (n : Nat) (x0 x1 : D) (C : CH) (Q : Kv) (E : Kx) : W (n + 1) i_need_value [x0, x1] C Q E = rdSs (GG n) (exN E) b_need_value (endN Q) [some x0, some x1] C := by
  rw [W, wpN_eq _ _ _ _ _ _ _ _ ⟨2, 2, b_need_value⟩ rfl rfl]; rfl
theorem W_text_of (n : Nat) (x0 : D) (C : CH) (Q : Kv) (E : Kx) : W (n + 1) i_text_of [x0] C Q E = rdSs (GG n) (exN E) b_text_of (endN Q) [some x0, none] C := by
  rw [W, wpN_eq _ _ _ _ _ _ _ _ ⟨1, 2, b_text_of⟩ rfl rfl]; rfl
theorem W_value_text (n : Nat) (x0 : D) (C : CH) (Q : Kv) (E : Kx) : W (n + 1) i_value_text [x0] C Q E = rdSs (GG n) (exN E) b_value_text (endN Q) [some x0] C := by
  rw [W, wpN_eq _ _ _ _ _ _ _ _ ⟨1, 1, b_value_text⟩ rfl rfl]; rfl
theorem W_name_end (n : Nat) (x0 x1 : D) (C : CH) (Q : Kv) (E : Kx) : W (n + 1) i_name_end [x0, x1] C Q E = rdSs (GG n) (exN E) b_name_end (endN Q) [some x0, some x1] C := by
  rw [W, wpN_eq _ _ _ _ _ _ _ _ ⟨2, 2, b_name_end⟩ rfl rfl]; rfl
theorem W_read_at (n : Nat) (x0 x1 x2 : D) (C : CH) (Q : Kv) (E : Kx) : W (n + 1) i_read_at [x0, x1, x2] C Q E = rdSs (GG n) (exN E) b_read_at (endN Q) [some x0, some x1, some x2, none, none, none, none] C := by
  rw [W, wpN_eq _ _ _ _ _ _ _ _ ⟨3, 7, b_read_at⟩ rfl rfl]; rfl
theorem W_read_value (n : Nat) (x0 : D) (C : CH) (Q : Kv) (E : Kx) : W (n + 1) i_read_value [x0] C Q E = rdSs (GG n) (exN E) b_read_value (endN Q) [some x0, none] C := by
  rw [W, wpN_eq _ _ _ _ _ _ _ _ ⟨1, 2, b_read_value⟩ rfl rfl]; rfl
theorem W__law_begin (n : Nat) (x0 : D) (C : CH) (Q : Kv) (E : Kx) : W (n + 1) i__law_begin [x0] C Q E = rdSs (GG n) (exN E) b__law_begin (endN Q) [some x0, none, none] C := by
  rw [W, wpN_eq _ _ _ _ _ _ _ _ ⟨1, 3, b__law_begin⟩ rfl rfl]; rfl
theorem W__law_mixed (n : Nat) (x0 : D) (C : CH) (Q : Kv) (E : Kx) : W (n + 1) i__law_mixed [x0] C Q E = rdSs (GG n) (exN E) b__law_mixed (endN Q) [some x0, none, none, none, none, none] C := by
  rw [W, wpN_eq _ _ _ _ _ _ _ _ ⟨1, 6, b__law_mixed⟩ rfl rfl]; rfl
theorem W__law_take (n : Nat) (x0 x1 : D) (C : CH) (Q : Kv) (E : Kx) : W (n + 1) i__law_take [x0, x1] C Q E = rdSs (GG n) (exN E) b__law_take (endN Q) [some x0, some x1, none] C := by
  rw [W, wpN_eq _ _ _ _ _ _ _ _ ⟨2, 3, b__law_take⟩ rfl rfl]; rfl
theorem W__law_pick (n : Nat) (x0 x1 : D) (C : CH) (Q : Kv) (E : Kx) : W (n + 1) i__law_pick [x0, x1] C Q E = rdSs (GG n) (exN E) b__law_pick (endN Q) [some x0, some x1] C := by
  rw [W, wpN_eq _ _ _ _ _ _ _ _ ⟨2, 2, b__law_pick⟩ rfl rfl]; rfl
theorem W__law_is_name (n : Nat) (x0 : D) (C : CH) (Q : Kv) (E : Kx) : W (n + 1) i__law_is_name [x0] C Q E = rdSs (GG n) (exN E) b__law_is_name (endN Q) [some x0, none, none] C := by
  rw [W, wpN_eq _ _ _ _ _ _ _ _ ⟨1, 3, b__law_is_name⟩ rfl rfl]; rfl
theorem W__law_name (n : Nat) (x0 : D) (C : CH) (Q : Kv) (E : Kx) : W (n + 1) i__law_name [x0] C Q E = rdSs (GG n) (exN E) b__law_name (endN Q) [some x0, none, none, none] C := by
  rw [W, wpN_eq _ _ _ _ _ _ _ _ ⟨1, 4, b__law_name⟩ rfl rfl]; rfl
theorem W__law_thing (n : Nat) (x0 x1 : D) (C : CH) (Q : Kv) (E : Kx) : W (n + 1) i__law_thing [x0, x1] C Q E = rdSs (GG n) (exN E) b__law_thing (endN Q) [some x0, some x1, none, none] C := by
  rw [W, wpN_eq _ _ _ _ _ _ _ _ ⟨2, 4, b__law_thing⟩ rfl rfl]; rfl
theorem W__law_text (n : Nat) (x0 : D) (C : CH) (Q : Kv) (E : Kx) : W (n + 1) i__law_text [x0] C Q E = rdSs (GG n) (exN E) b__law_text (endN Q) [some x0, none] C := by
  rw [W, wpN_eq _ _ _ _ _ _ _ _ ⟨1, 2, b__law_text⟩ rfl rfl]; rfl
theorem W__law_odd (n : Nat) (x0 x1 : D) (C : CH) (Q : Kv) (E : Kx) : W (n + 1) i__law_odd [x0, x1] C Q E = rdSs (GG n) (exN E) b__law_odd (endN Q) [some x0, some x1, none] C := by
  rw [W, wpN_eq _ _ _ _ _ _ _ _ ⟨2, 3, b__law_odd⟩ rfl rfl]; rfl
theorem W__law_spoilt (n : Nat) (x0 x1 : D) (C : CH) (Q : Kv) (E : Kx) : W (n + 1) i__law_spoilt [x0, x1] C Q E = rdSs (GG n) (exN E) b__law_spoilt (endN Q) [some x0, some x1, none] C := by
  rw [W, wpN_eq _ _ _ _ _ _ _ _ ⟨2, 3, b__law_spoilt⟩ rfl rfl]; rfl
theorem W__law_sizes (n : Nat) (x0 : D) (C : CH) (Q : Kv) (E : Kx) : W (n + 1) i__law_sizes [x0] C Q E = rdSs (GG n) (exN E) b__law_sizes (endN Q) [some x0, none, none] C := by
  rw [W, wpN_eq _ _ _ _ _ _ _ _ ⟨1, 3, b__law_sizes⟩ rfl rfl]; rfl
theorem W__law_right (n : Nat) (x0 : D) (C : CH) (Q : Kv) (E : Kx) : W (n + 1) i__law_right [x0] C Q E = rdSs (GG n) (exN E) b__law_right (endN Q) [some x0, none, none, none, none, none] C := by
  rw [W, wpN_eq _ _ _ _ _ _ _ _ ⟨1, 6, b__law_right⟩ rfl rfl]; rfl
theorem W_law (n : Nat) (x0 : D) (C : CH) (Q : Kv) (E : Kx) : W (n + 1) i_law [x0] C Q E = rdSs (GG n) (exN E) b_law (endN Q) [some x0, none, none, none, none, none, none, none, none, none] C := by
  rw [W, wpN_eq _ _ _ _ _ _ _ _ ⟨1, 10, b_law⟩ rfl rfl]; rfl
noncomputable abbrev GA (n : Nat) (act : SemA) : G3 := gA prog kit.get n act
theorem GA_call (n f : Nat) (act : SemA) : (GA n act).call f = W n f := rfl
theorem GA_act (n : Nat) (act : SemA) : (GA n act).act = act := rfl
theorem L__law_told (n : Nat) (act : SemA) (x0 : D) (C : CH) (Q : Kv) (E : Kx) : (GG (n + 3)).lam i__law_told act [x0] C Q E = rdSs (GA (n + 1) act) (exN E) b__law_told (endN Q) [some x0, none, none, none] C := by
  rw [wpL_eq _ _ _ _ _ _ _ _ _ ⟨1, 4, b__law_told⟩ rfl rfl]; rfl
end My
namespace My
open PySem L3
local macro_rules | `(tactic| simp_arith [$t,*]) => `(tactic| simp only [rdSs_nil, rdS, rdE, rdT, rdA, rdLs, rdIfs, rdO, sNext, sRet, sRetN, sIf, sDrop, sAsg, sPar, sPar3, sSet, sBreak, sCont, sRaise, cAndV, cOrV, cNotV, cAnd, cOr, cNot, cTst, cTsN, tstD, cIf, cUn, cBin, cList, cNil, cCons, cVar, cC, cChain, cMt, cSl, cPart, cNoPart, cCall, cArgs, endN, exN, semB, semC, semBI, semMI, semIK, tyMI, hT, bindT, setAll, L3.CT.slots, oIsi, oNeg, oAddA_int, oAddA_str, oAddA_tup, oI2_int, oMulA_int, oMulA_tup, oMulA_str, oIxA_tup, oIxA_rls, oIxA_str, oSl_tup, oSl_str, oEqN_int, oEqN_bl, oInF_str2, atI_zero, atI_one, atI_two, oLen, oInt, oAbs, oIs, isNon, oTup, oInS, gath, L3.Src.get, Option.map, List.getD_cons_zero, List.getD_cons_succ, SqC_tup, SqC_rls, SqC_ref, SqC_str, SqC_int, LsC_iff, tyC_non, tyC_bl, tyC_int, tyC_str, tyC_tup, cup_same, List.getElem?_cons_zero, List.getElem?_cons_succ, List.set_cons_zero, List.set_cons_succ, List.length_cons, List.length_nil, List.map_cons, List.map_nil, List.zip_cons_cons, Option.some.injEq, L3.D.bl.injEq, L3.D.int.injEq, L3.D.str.injEq, L3.D.tup.injEq, L3.D.rls.injEq, L3.D.ref.injEq, List.cons.injEq, L3.CO.lst.injEq, L3.CO.dic.injEq, reduceCtorEq, exists_eq_left, exists_eq_left', exists_eq, exists_eq', and_true, true_and, and_false, false_and, or_false, false_or, or_true, true_or, exists_false, exists_const, ite_true, ite_false, if_true, if_false, Bool.not_true, Bool.not_false, Bool.true_eq_false, Bool.false_eq_true, id_eq, eq_self, eq_self_iff_true, and_self, or_self, exists_and_left, exists_and_right, Nat.zero_add, Nat.add_eq, forall_const, sl_lt0, sl_le0, sl_lt1, sl_le1, sl_lt2, sl_le2, sl_lt3, sl_le3, sl_lt4, sl_le4, sl_lt5, sl_le5, sl_lt6, sl_le6, sl_lt7, sl_le7, sl_lt8, sl_le8, sl_lt9, sl_le9, sl_lt10, sl_le10, sl_lt11, sl_le11, sl_lt12, sl_le12, Nat.reduceAdd, Nat.reduceLeDiff, Int.reduceLE, Int.reduceLT, Int.cast_ofNat_Int, decide_true, decide_false, k_NoneType_int, k_bool_int, k_int_int, k_str_int, k_tuple_int, k_list_int, k_dict_int, k_NoneType_bool, k_bool_bool, k_int_bool, k_str_bool, k_tuple_bool, k_list_bool, k_dict_bool, k_NoneType_str, k_bool_str, k_int_str, k_str_str, k_tuple_str, k_list_str, k_dict_str, k_NoneType_tuple, k_bool_tuple, k_int_tuple, k_str_tuple, k_tuple_tuple, k_list_tuple, k_dict_tuple, k_NoneType_list, k_bool_list, k_int_list, k_str_list, k_tuple_list, k_list_list, k_dict_list, $t,*])
local macro_rules | `(tactic| simp_arith! [$t,*]) => `(tactic| simp only [rdSs, rdS, rdE, rdT, rdA, rdLs, rdIfs, rdO, sSeq, sNext, sRet, sRetN, sIf, sDrop, sAsg, sPar, sPar3, sSet, sBreak, sCont, sRaise, cAndV, cOrV, cNotV, cAnd, cOr, cNot, cTst, cTsN, tstD, cIf, cUn, cBin, cList, cNil, cCons, cVar, cC, cChain, cMt, cSl, cPart, cNoPart, cCall, cArgs, gN, endN, exN, semB, semC, semBI, semMI, semIK, tyMI, hT, bindT, setAll, L3.CT.slots, oIsi, oNeg, oAddA_int, oAddA_str, oAddA_tup, oI2_int, oMulA_int, oMulA_tup, oMulA_str, oIxA_tup, oIxA_rls, oIxA_str, oSl_tup, oSl_str, oEqN_int, oEqN_bl, oInF_str2, atI_zero, atI_one, atI_two, oLen, oInt, oAbs, oIs, isNon, oTup, oInS, gath, L3.Src.get, Option.map, List.getD_cons_zero, List.getD_cons_succ, SqC_tup, SqC_rls, SqC_ref, SqC_str, SqC_int, LsC_iff, tyC_non, tyC_bl, tyC_int, tyC_str, tyC_tup, cup_same, List.getElem?_cons_zero, List.getElem?_cons_succ, List.set_cons_zero, List.set_cons_succ, List.length_cons, List.length_nil, List.map_cons, List.map_nil, List.zip_cons_cons, Option.some.injEq, L3.D.bl.injEq, L3.D.int.injEq, L3.D.str.injEq, L3.D.tup.injEq, L3.D.rls.injEq, L3.D.ref.injEq, List.cons.injEq, L3.CO.lst.injEq, L3.CO.dic.injEq, reduceCtorEq, exists_eq_left, exists_eq_left', exists_eq, exists_eq', and_true, true_and, and_false, false_and, or_false, false_or, or_true, true_or, exists_false, exists_const, ite_true, ite_false, if_true, if_false, Bool.not_true, Bool.not_false, Bool.true_eq_false, Bool.false_eq_true, id_eq, eq_self, eq_self_iff_true, and_self, or_self, exists_and_left, exists_and_right, Nat.zero_add, Nat.add_eq, forall_const, sl_lt0, sl_le0, sl_lt1, sl_le1, sl_lt2, sl_le2, sl_lt3, sl_le3, sl_lt4, sl_le4, sl_lt5, sl_le5, sl_lt6, sl_le6, sl_lt7, sl_le7, sl_lt8, sl_le8, sl_lt9, sl_le9, sl_lt10, sl_le10, sl_lt11, sl_le11, sl_lt12, sl_le12, Nat.reduceAdd, Nat.reduceLeDiff, Int.reduceLE, Int.reduceLT, Int.cast_ofNat_Int, decide_true, decide_false, k_NoneType_int, k_bool_int, k_int_int, k_str_int, k_tuple_int, k_list_int, k_dict_int, k_NoneType_bool, k_bool_bool, k_int_bool, k_str_bool, k_tuple_bool, k_list_bool, k_dict_bool, k_NoneType_str, k_bool_str, k_int_str, k_str_str, k_tuple_str, k_list_str, k_dict_str, k_NoneType_tuple, k_bool_tuple, k_int_tuple, k_str_tuple, k_tuple_tuple, k_list_tuple, k_dict_tuple, k_NoneType_list, k_bool_list, k_int_list, k_str_list, k_tuple_list, k_list_list, k_dict_list, $t,*])
noncomputable def isNum : T → Bool
  | .int _ => true
  | _ => false
theorem is_number_ok {n : Nat} {t : T} {C : CH} {Q : Kv} {E : Kx} (hq : Q (.bl (isNum t)) C) : W (n+1) i_is_number [t.d] C Q E := by
  rw [W_is_number]
  unfold b_is_number
  cases t <;> simp_arith! [T.d, GG_kit] <;> exact ⟨C, Sub.refl, hq⟩
noncomputable def LET : Str := "abcdefghijklmnopqrstuvwxyz"
noncomputable def SIG : Str := "abcdefghijklmnopqrstuvwxyz0123456789"
noncomputable def isNm (z : Str) : Bool := match z.cps.toList with
  | [] => false
  | c :: r => decide (z.length ≤ 8) && (decide (c ∈ LET.cps.toList) && (c :: r).all fun c => decide (c ∈ SIG.cps.toList))
noncomputable def isName : T → Bool
  | .str z => isNm z
  | _ => false
theorem is_name_ok {n : Nat} {t : T} {C : CH} {Q : Kv} {E : Kx} (hq : Q (.bl (isName t)) C) (hz : ∀ z, t = .str z → z.length ≤ sizeLine) : W (n+1) i_is_name [t.d] C Q E := by
  rw [W_is_name]
  unfold b_is_name
  cases t with
  | str z =>
    simp_arith! [T.d, GG_kit]
    refine ⟨hz z rfl, ?_⟩
    have hn := len_cps z
    replace hq : Q (.bl (isNm z)) C := hq
    unfold isNm at hq
    cases hz' : z.cps.toList with
    | nil =>
      rw [hz'] at hn hq
      simp only [hn, List.length_nil]
      exact ⟨C, Sub.refl, hq⟩
    | cons c r =>
      rw [hz'] at hq
      have h1 : (1 : Int) ≤ (z.length : Int) := by rw [hn, hz', List.length_cons]; omega
      rw [if_pos (decide_eq_true h1)]
      by_cases h8 : z.length ≤ 8
      · have h8' : ((z.length : Nat) : Int) ≤ 8 := by omega
        rw [if_neg (by simp [h8'])]
        refine ⟨hz z rfl, c, atI_zero, c, rfl, ?_⟩
        by_cases hc : c ∈ LET.cps.toList
        · have hc' : c ∈ (Str.ofString "abcdefghijklmnopqrstuvwxyz").cps.toList := hc
          rw [if_neg (by simp [hc'])]
          refine ⟨_, rfl, z, rfl, ?_⟩
          refine lcL_map (fun d => match d with | .str y => .bl (decide (y.cps.toList.head?.getD 0 ∈ SIG.cps.toList)) | _ => .non) trivial _ [] (fun d hd => ?_) ?_ ?_
          · obtain ⟨a, ha, rfl⟩ := List.mem_map.mp hd
            refine ⟨_, rfl, fun Q' hQ => ?_⟩
            simp_arith! [wipe3]
            exact ⟨a, rfl, by simpa [SIG] using hQ⟩
          · rw [List.length_map, ← len_cps]; simp only [List.length_nil]; have := hz z rfl; omega
          · intro p hp
            rw [List.nil_append, List.map_map]
            refine oAll_new (bs := z.cps.toList.map fun c => decide (c ∈ SIG.cps.toList)) (by rw [List.map_map]; rfl) ⟨C, sub_new hp, ?_⟩
            rw [hz']
            simpa [h8, hc, List.all_map, Function.comp_def] using hq
        · have hc' : ¬ c ∈ (Str.ofString "abcdefghijklmnopqrstuvwxyz").cps.toList := hc
          rw [if_pos (by simp [hc'])]
          refine ⟨C, Sub.refl, ?_⟩
          simpa [hc] using hq
      · have h8' : ¬ ((z.length : Nat) : Int) ≤ 8 := by omega
        rw [if_pos (by simp [h8'])]
        refine ⟨C, Sub.refl, ?_⟩
        simpa [h8] using hq
  | _ => simp_arith! [T.d, GG_kit] <;> exact ⟨C, Sub.refl, hq⟩
/-- the height and the greatest level of a value -/
noncomputable def both2 (x y : Option (Int × Int)) : Option (Int × Int) := match x, y with
  | some a, some b => some (1 + (if b.1 > a.1 then b.1 else a.1), if b.2 > a.2 then b.2 else a.2)
  | _, _ => none
noncomputable def meas : Nat → T → Option (Int × Int)
  | _, .int i => if 1 ≤ i ∧ i ≤ 3 then some (0, i) else none
  | r + 1, .tup [h, a] => if isName h = true then (meas r a).map fun q => (1 + q.1, q.2) else none
  | r + 1, .tup [h, a, b] => if isName h = true then both2 (meas r a) (meas r b) else none
  | _, _ => none
noncomputable def measD : Option (Int × Int) → D
  | none => .non
  | some q => .tup [.int q.1, .int q.2]
mutual
noncomputable def okT : T → Bool
  | .str z => decide (z.length ≤ sizeLine) && PyData.strOk z
  | .tup xs => okTs xs
  | _ => true
noncomputable def okTs : List T → Bool
  | [] => true
  | x :: xs => okT x && okTs xs
end
/-- one item of «None in parts» -/
noncomputable def measP : Option (Int × Int) → PyData
  | none => .none
  | some q => .tuple [.int q.1, .int q.2]
theorem measSnap (C : CH) : ∀ m, Snap C (measD m) (measP m)
  | none => .non
  | some q => .tup (.cons (.int _) (.cons (.int _) .nil))
theorem noneIn1 {C : CH} {p : Addr} {m : Option (Int × Int)} {Q : Kv} (h : C p = some (.lst [measD m])) (q : Q (.bl m.isNone) C) : oInD id .non (.ref p) C Q :=
  ⟨p, .none, _, [measP m], rfl, h, .non, .cons (measSnap C m) .nil, rfl, by cases m <;> rfl, by cases m <;> exact q⟩
theorem noneIn2 {C : CH} {p : Addr} {m k : Option (Int × Int)} {Q : Kv} (h : C p = some (.lst [measD m, measD k])) (q : Q (.bl (m.isNone || k.isNone)) C) : oInD id .non (.ref p) C Q :=
  ⟨p, .none, _, [measP m, measP k], rfl, h, .non, .cons (measSnap C m) (.cons (measSnap C k) .nil), rfl, by cases m <;> cases k <;> rfl, by cases m <;> cases k <;> exact q⟩
theorem ok_len {z : Str} (h : okT (.str z) = true) : z.length ≤ sizeLine := by
  simp only [okT, Bool.and_eq_true, decide_eq_true_eq] at h
  exact h.1
theorem measured_ok : ∀ (r n : Nat) (t : T) (C : CH) (Q : Kv) (E : Kx), okT t = true → Q (measD (meas r t)) C → W (n + r + 2) i_measured [t.d, .int r] C Q E := by
  intro r
  induction r with
  | zero =>
    intro n t C Q E ho hq
    rw [W_measured]
    unfold b_measured
    rw [rdSs_cons]
    simp_arith [GG_call]
    refine is_number_ok ?_
    cases t with
    | int i =>
      simp_arith [isNum]
      rw [rdSs_cons]
      simp_arith [T.d]
      by_cases h1 : 1 ≤ i <;> by_cases h3 : i ≤ 3 <;> simp only [h1, h3, decide_true, decide_false, if_true, Bool.false_eq_true, if_false] <;> simp only [meas, h1, h3, measD, and_self, and_true, and_false, if_true, if_false] at hq
      · exact ⟨C, Sub.refl, hq⟩
      all_goals exact ⟨C, Sub.refl, hq⟩
    | _ =>
      simp_arith [isNum]
      rw [rdSs_cons]
      simp_arith []
      rw [rdSs_cons]
      simp_arith []
      simp only [meas, measD] at hq
      exact ⟨C, Sub.refl, hq⟩
  | succ r ih =>
    intro n t C Q E ho hq
    rw [W_measured]
    unfold b_measured
    rw [rdSs_cons]
    simp_arith [GG_call]
    refine is_number_ok ?_
    have hr : (((r + 1 : Nat) : Int) = 0) = False := by simp; omega
    have e1 : ((r + 1 : Nat) : Int) - 1 = r := by omega
    cases t with
    | int i =>
      simp_arith [isNum]
      rw [rdSs_cons]
      simp_arith [T.d]
      by_cases h1 : 1 ≤ i <;> by_cases h3 : i ≤ 3 <;> simp only [h1, h3, decide_true, decide_false, if_true, Bool.false_eq_true, if_false] <;> simp only [meas, h1, h3, measD, and_self, and_true, and_false, if_true, if_false] at hq
      · exact ⟨C, Sub.refl, hq⟩
      all_goals exact ⟨C, Sub.refl, hq⟩
    | tup xs =>
      simp_arith [isNum]
      rw [rdSs_cons]
      simp_arith [T.d, GG_kit, GG_call, hr, decide_false, T.ds_length]
      match xs, ho, hq with
      | [], ho, hq =>
        rw [if_neg (by decide), rdSs_cons]
        simp_arith []
        exact ⟨C, Sub.refl, hq⟩
      | [_], ho, hq =>
        rw [if_neg (by simp), rdSs_cons]
        simp_arith []
        exact ⟨C, Sub.refl, hq⟩
      | _ :: _ :: _ :: _ :: l, ho, hq =>
        rw [if_pos (by simp; omega), if_pos (by simp; omega), rdSs_cons]
        simp_arith []
        exact ⟨C, Sub.refl, hq⟩
      | [h, a], ho, hq =>
        simp_arith [T.ds]
        simp only [okT, okTs, Bool.and_true, Bool.and_eq_true] at ho
        refine is_name_ok ?_ (fun z e => by rw [e] at ho; exact ok_len ho.1)
        simp only [meas] at hq
        by_cases hn : isName h = true
        · rw [if_pos hn] at hq
          simp_arith [hn]
          rw [rdSs_cons]
          simp_arith [cLc, iSeq, lcL, wipe3, cutD_tail, cYes, GG_call, e1]
          refine ih n a C _ _ ho.2 ?_
          intro p hp
          rw [rdSs_cons]
          simp_arith []
          refine noneIn1 cup_same ?_
          cases hm : meas r a with
          | none =>
            rw [hm] at hq
            simp_arith [Option.isNone]
            rw [rdSs_cons]
            simp_arith []
            exact ⟨C, sub_new hp, hq⟩
          | some q =>
            rw [hm] at hq
            simp_arith [Option.isNone]
            rw [rdSs_cons]
            simp_arith [cLc, iSeq, lcL, wipe3, cYes, List.nil_append, measD]
            intro p1 hp1
            refine oMaxL1 cup_same ?_
            simp_arith [cup_old hp1 cup_same, cLc, iSeq, lcL, wipe3, cYes, List.nil_append]
            intro p2 hp2
            refine oMaxL1 cup_same ?_
            exact ⟨C, ((sub_new hp).trans (sub_new hp1)).trans (sub_new hp2), hq⟩
        · rw [if_neg hn] at hq
          simp_arith [hn]
          rw [rdSs_cons]
          simp_arith []
          exact ⟨C, Sub.refl, hq⟩
      | [h, a, b], ho, hq =>
        simp_arith [T.ds]
        simp only [okT, okTs, Bool.and_true, Bool.and_eq_true] at ho
        refine is_name_ok ?_ (fun z e => by rw [e] at ho; exact ok_len ho.1)
        simp only [meas] at hq
        by_cases hn : isName h = true
        · rw [if_pos hn] at hq
          simp_arith [hn]
          rw [rdSs_cons]
          simp_arith [cLc, iSeq, lcL, wipe3, cutD_tail, cYes, GG_call, e1, List.nil_append, List.cons_append]
          refine ih n a C _ _ ho.2.1 ?_
          refine ih n b C _ _ ho.2.2 ?_
          intro p hp
          rw [rdSs_cons]
          simp_arith []
          refine noneIn2 cup_same ?_
          cases hm : meas r a with
          | none =>
            rw [hm] at hq
            simp_arith [Option.isNone, Bool.true_or]
            rw [rdSs_cons]
            simp_arith []
            exact ⟨C, sub_new hp, hq⟩
          | some q =>
            cases hk : meas r b with
            | none =>
              rw [hm, hk] at hq
              simp_arith [Option.isNone, Bool.or_true]
              rw [rdSs_cons]
              simp_arith []
              exact ⟨C, sub_new hp, hq⟩
            | some k =>
              rw [hm, hk] at hq
              simp_arith [Option.isNone, Bool.or_self]
              rw [rdSs_cons]
              simp_arith [cLc, iSeq, lcL, wipe3, cYes, List.nil_append, List.cons_append, measD]
              intro p1 hp1
              refine oMaxL2 cup_same ?_
              simp_arith [cup_old hp1 cup_same, cLc, iSeq, lcL, wipe3, cYes, List.nil_append, List.cons_append]
              intro p2 hp2
              refine oMaxL2 cup_same ?_
              exact ⟨C, ((sub_new hp).trans (sub_new hp1)).trans (sub_new hp2), hq⟩
        · rw [if_neg hn] at hq
          simp_arith [hn]
          rw [rdSs_cons]
          simp_arith []
          exact ⟨C, Sub.refl, hq⟩
    | _ => simp_arith [isNum]; rw [rdSs_cons]; simp_arith [T.d, GG_kit, hr, decide_false]; rw [rdSs_cons]; simp_arith []; exact ⟨C, Sub.refl, hq⟩
inductive U where
  | non | bl (b : Bool) | int (i : Int) | str (z : Str) | tup (us : List U) | lst (p : Addr) | dic (p : Addr)
mutual
noncomputable def U.d : U → D
  | .non => .non
  | .bl b => .bl b
  | .int i => .int i
  | .str z => .str z
  | .tup us => .tup (U.ds us)
  | .lst p => .ref p
  | .dic p => .ref p
noncomputable def U.ds : List U → List D
  | [] => []
  | u :: us => u.d :: U.ds us
end
theorem U.ds_map : ∀ us : List U, U.ds us = us.map U.d
  | [] => rfl
  | u :: us => by rw [U.ds, U.ds_map us, List.map_cons]
theorem U.ds_length (us : List U) : (U.ds us).length = us.length := by rw [U.ds_map, List.length_map]
inductive UOk (C : CH) : U → Prop
  | non : UOk C .non
  | bl (b : Bool) : UOk C (.bl b)
  | int (i : Int) : UOk C (.int i)
  | str (z : Str) (h1 : z.length ≤ sizeLine) (h2 : PyData.strOk z = true) : UOk C (.str z)
  | tup (us : List U) (hl : us.length ≤ 1000) (h : ∀ u ∈ us, UOk C u) : UOk C (.tup us)
  | lst (p : Addr) (xs : List D) (h : C p = some (.lst xs)) : UOk C (.lst p)
  | dic (p : Addr) (k : List (L2.Key × D)) (h : C p = some (.dic k)) : UOk C (.dic p)
theorem UOk.sub {C C' : CH} (s : Sub C C') {u : U} (h : UOk C u) : UOk C' u := by
  induction h with
  | non => exact .non
  | bl b => exact .bl b
  | int i => exact .int i
  | str z h1 h2 => exact .str z h1 h2
  | tup us hl h ih => exact .tup us hl ih
  | lst p xs h => exact .lst p xs (s _ _ h)
  | dic p k h => exact .dic p k (s _ _ h)
noncomputable def U.ty : U → String
  | .non => "NoneType" | .bl _ => "bool" | .int _ => "int" | .str _ => "str" | .tup _ => "tuple" | .lst _ => "list" | .dic _ => "dict"
theorem UOk.tyC {C : CH} {u : U} (h : UOk C u) : tyC C u.d = some (.inl u.ty) := by
  cases h with
  | lst p xs h => exact tyC_lst h
  | dic p k h => unfold U.d L3.tyC; simp only [h]; rfl
  | _ => rfl
noncomputable def isNumU : U → Bool
  | .int _ => true
  | _ => false
theorem is_number_U {n : Nat} {u : U} {C : CH} {Q : Kv} {E : Kx} (ho : UOk C u) (hq : Q (.bl (isNumU u)) C) : W (n+1) i_is_number [u.d] C Q E := by
  have ht := ho.tyC
  rw [W_is_number]
  unfold b_is_number
  rw [rdSs_cons]
  cases u <;> simp_arith [GG_kit, ht, U.ty] <;> exact ⟨C, Sub.refl, hq⟩
noncomputable def isNameU : U → Bool
  | .str z => isNm z
  | _ => false
theorem is_name_U {n : Nat} {u : U} {C : CH} {Q : Kv} {E : Kx} (ho : UOk C u) (hq : Q (.bl (isNameU u)) C) : W (n+1) i_is_name [u.d] C Q E := by
  have ht := ho.tyC
  cases u with
  | str z =>
    cases ho with
    | str _ h1 h2 => exact is_name_ok (t := .str z) hq fun y e => by cases e; exact h1
  | _ =>
    rw [W_is_name]
    unfold b_is_name
    rw [rdSs_cons]
    simp_arith [GG_kit, ht, U.ty]
    rw [rdSs_cons]
    simp_arith []
    exact ⟨C, Sub.refl, hq⟩
noncomputable def measU : Nat → U → Option (Int × Int)
  | _, .int i => if 1 ≤ i ∧ i ≤ 3 then some (0, i) else none
  | r + 1, .tup [h, a] => if isNameU h = true then (measU r a).map fun q => (1 + q.1, q.2) else none
  | r + 1, .tup [h, a, b] => if isNameU h = true then both2 (measU r a) (measU r b) else none
  | _, _ => none
theorem measured_U : ∀ (r n : Nat) (t : U) (C : CH) (Q : Kv) (E : Kx), UOk C t → Q (measD (measU r t)) C → W (n + r + 2) i_measured [t.d, .int r] C Q E := by
  intro r
  induction r with
  | zero =>
    intro n t C Q E ho hq
    rw [W_measured]
    unfold b_measured
    rw [rdSs_cons]
    simp_arith [GG_call]
    refine is_number_U ho ?_
    cases t with
    | int i =>
      simp_arith [isNumU]
      rw [rdSs_cons]
      simp_arith [U.d]
      by_cases h1 : 1 ≤ i <;> by_cases h3 : i ≤ 3 <;> simp only [h1, h3, decide_true, decide_false, if_true, Bool.false_eq_true, if_false] <;> simp only [measU, h1, h3, measD, and_self, and_true, and_false, if_true, if_false] at hq
      · exact ⟨C, Sub.refl, hq⟩
      all_goals exact ⟨C, Sub.refl, hq⟩
    | _ =>
      simp_arith [isNumU]
      rw [rdSs_cons]
      simp_arith []
      rw [rdSs_cons]
      simp_arith []
      simp only [measU, measD] at hq
      exact ⟨C, Sub.refl, hq⟩
  | succ r ih =>
    intro n t C Q E ho hq
    have ht := ho.tyC
    rw [W_measured]
    unfold b_measured
    rw [rdSs_cons]
    simp_arith [GG_call]
    refine is_number_U ho ?_
    have hr : (((r + 1 : Nat) : Int) = 0) = False := by simp; omega
    have e1 : ((r + 1 : Nat) : Int) - 1 = r := by omega
    cases t with
    | int i =>
      simp_arith [isNumU]
      rw [rdSs_cons]
      simp_arith [U.d]
      by_cases h1 : 1 ≤ i <;> by_cases h3 : i ≤ 3 <;> simp only [h1, h3, decide_true, decide_false, if_true, Bool.false_eq_true, if_false] <;> simp only [measU, h1, h3, measD, and_self, and_true, and_false, if_true, if_false] at hq
      · exact ⟨C, Sub.refl, hq⟩
      all_goals exact ⟨C, Sub.refl, hq⟩
    | tup xs =>
      have hm : ∀ x ∈ xs, UOk C x := by cases ho with | tup _ _ h => exact h
      simp_arith [isNumU]
      rw [rdSs_cons]
      simp_arith [U.d, GG_kit, GG_call, hr, decide_false, U.ds_length]
      match xs, hm, hq with
      | [], hm, hq =>
        rw [if_neg (by decide), rdSs_cons]
        simp_arith []
        exact ⟨C, Sub.refl, hq⟩
      | [_], hm, hq =>
        rw [if_neg (by simp), rdSs_cons]
        simp_arith []
        exact ⟨C, Sub.refl, hq⟩
      | _ :: _ :: _ :: _ :: l, hm, hq =>
        rw [if_pos (by simp; omega), if_pos (by simp; omega), rdSs_cons]
        simp_arith []
        exact ⟨C, Sub.refl, hq⟩
      | [h, a], hm, hq =>
        simp_arith [U.ds]
        refine is_name_U (hm h (by simp)) ?_
        simp only [measU] at hq
        by_cases hn : isNameU h = true
        · rw [if_pos hn] at hq
          simp_arith [hn]
          rw [rdSs_cons]
          simp_arith [cLc, iSeq, lcL, wipe3, cutD_tail, cYes, GG_call, e1]
          refine ih n a C _ _ (hm a (by simp)) ?_
          intro p hp
          rw [rdSs_cons]
          simp_arith []
          refine noneIn1 cup_same ?_
          cases hm : measU r a with
          | none =>
            rw [hm] at hq
            simp_arith [Option.isNone]
            rw [rdSs_cons]
            simp_arith []
            exact ⟨C, sub_new hp, hq⟩
          | some q =>
            rw [hm] at hq
            simp_arith [Option.isNone]
            rw [rdSs_cons]
            simp_arith [cLc, iSeq, lcL, wipe3, cYes, List.nil_append, measD]
            intro p1 hp1
            refine oMaxL1 cup_same ?_
            simp_arith [cup_old hp1 cup_same, cLc, iSeq, lcL, wipe3, cYes, List.nil_append]
            intro p2 hp2
            refine oMaxL1 cup_same ?_
            exact ⟨C, ((sub_new hp).trans (sub_new hp1)).trans (sub_new hp2), hq⟩
        · rw [if_neg hn] at hq
          simp_arith [hn]
          rw [rdSs_cons]
          simp_arith []
          exact ⟨C, Sub.refl, hq⟩
      | [h, a, b], hm, hq =>
        simp_arith [U.ds]
        refine is_name_U (hm h (by simp)) ?_
        simp only [measU] at hq
        by_cases hn : isNameU h = true
        · rw [if_pos hn] at hq
          simp_arith [hn]
          rw [rdSs_cons]
          simp_arith [cLc, iSeq, lcL, wipe3, cutD_tail, cYes, GG_call, e1, List.nil_append, List.cons_append]
          refine ih n a C _ _ (hm a (by simp)) ?_
          refine ih n b C _ _ (hm b (by simp)) ?_
          intro p hp
          rw [rdSs_cons]
          simp_arith []
          refine noneIn2 cup_same ?_
          cases hm : measU r a with
          | none =>
            rw [hm] at hq
            simp_arith [Option.isNone, Bool.true_or]
            rw [rdSs_cons]
            simp_arith []
            exact ⟨C, sub_new hp, hq⟩
          | some q =>
            cases hk : measU r b with
            | none =>
              rw [hm, hk] at hq
              simp_arith [Option.isNone, Bool.or_true]
              rw [rdSs_cons]
              simp_arith []
              exact ⟨C, sub_new hp, hq⟩
            | some k =>
              rw [hm, hk] at hq
              simp_arith [Option.isNone, Bool.or_self]
              rw [rdSs_cons]
              simp_arith [cLc, iSeq, lcL, wipe3, cYes, List.nil_append, List.cons_append, measD]
              intro p1 hp1
              refine oMaxL2 cup_same ?_
              simp_arith [cup_old hp1 cup_same, cLc, iSeq, lcL, wipe3, cYes, List.nil_append, List.cons_append]
              intro p2 hp2
              refine oMaxL2 cup_same ?_
              exact ⟨C, ((sub_new hp).trans (sub_new hp1)).trans (sub_new hp2), hq⟩
        · rw [if_neg hn] at hq
          simp_arith [hn]
          rw [rdSs_cons]
          simp_arith []
          exact ⟨C, Sub.refl, hq⟩
    | _ => simp_arith [isNumU]; rw [rdSs_cons]; simp_arith [GG_kit, ht, U.ty, hr, decide_false]; rw [rdSs_cons]; simp_arith []; exact ⟨C, Sub.refl, hq⟩
theorem joinL_nil : ∀ cs : List Nat, TL.joinL [] (cs.map fun c => [c]) = cs
  | [] => rfl
  | [c] => rfl
  | c :: d :: r => by
    show [c] ++ ([] ++ TL.joinL [] ((d :: r).map fun c => [c])) = _
    rw [joinL_nil (d :: r)]
    rfl
theorem join_chars (cs : List Nat) : (Txt.join (Str.ofString "") (cs.map fun c => (⟨#[c]⟩ : Str))).cps.toList = cs := by
  rw [TL.join_eq]
  have := TL.tl_join (Str.ofString "") (cs.map fun c => (⟨#[c]⟩ : Str))
  rw [List.map_map] at this
  exact this.trans (joinL_nil cs)
noncomputable def goodNm (z : Str) : Prop := isNm z = true ∧ z.length ≤ 8 ∧ PyData.strOk z = true
theorem let_sig : ∀ c ∈ LET.cps.toList, c ∈ SIG.cps.toList := by decide +kernel
theorem sig_small : ∀ c ∈ SIG.cps.toList, c < 1114112 := by decide +kernel
theorem good_chars {z : Str} {c : Nat} {cs : List Nat} (h : z.cps.toList = c :: cs) (hc : c ∈ LET.cps.toList) (hs : ∀ x ∈ cs, x ∈ SIG.cps.toList) (hl : cs.length ≤ 7) : goodNm z := by
  have hz : z.length = cs.length + 1 := by rw [len_cps, h]; rfl
  refine ⟨?_, by omega, ?_⟩
  · unfold isNm
    rw [h]
    simp only [Bool.and_eq_true, decide_eq_true_eq, List.all_eq_true]
    refine ⟨by omega, hc, fun x hx => ?_⟩
    rcases List.mem_cons.mp hx with e | hx
    · rw [e]; exact let_sig _ hc
    · exact hs x hx
  · show z.cps.all (· < 0x110000) = true
    rw [← Array.all_toList, h, List.all_eq_true]
    intro x hx
    rcases List.mem_cons.mp hx with e | hx
    · rw [e]; exact decide_eq_true (sig_small _ (let_sig _ hc))
    · exact decide_eq_true (sig_small _ (hs x hx))
/-- what has been called: all terms with items up to a level, or the terms of a list -/
inductive Kn where
  | num (k : Int) | lst (vs : List T)
instance : Coe Int Kn := ⟨Kn.num⟩
/-- the value that stands for it -/
inductive KnAt (C : CH) : Kn → D → Prop
  | num (k : Int) : KnAt C (.num k) (.int k)
  | lst {p : Addr} {vs : List T} : C p = some (.lst (T.ds vs)) → (∀ t ∈ vs, okT t = true ∧ t.p.depth ≤ 60) → KnAt C (.lst vs) (.ref p)
theorem KnAt.sub {C C' : CH} {k : Kn} {d : D} (h : KnAt C k d) (s : Sub C C') : KnAt C' k d := by
  cases h with
  | num k => exact .num k
  | lst h h2 => exact .lst (s _ _ h) h2
theorem meas_depth : ∀ (r : Nat) (v : T) (q : Int × Int), meas r v = some q → v.p.depth ≤ r
  | r, .int i, q, _ => by simp [T.p, PyData.depth]
  | r + 1, .tup [h, a], q, e => by
    simp only [meas] at e
    split at e
    · rename_i hn
      obtain ⟨q', e', _⟩ := Option.map_eq_some_iff.mp e
      have := meas_depth r a q' e'
      cases h <;> first | (simp [isName] at hn; done) | (simp only [T.p, T.pl, PyData.depth, PyData.depthAll]; omega)
    · cases e
  | r + 1, .tup [h, a, b], q, e => by
    simp only [meas] at e
    split at e
    · rename_i hn
      cases ea : meas r a with
      | none => rw [ea] at e; simp [both2] at e
      | some qa =>
        cases eb : meas r b with
        | none => rw [ea, eb] at e; simp [both2] at e
        | some qb =>
          have := meas_depth r a qa ea
          have := meas_depth r b qb eb
          cases h <;> first | (simp [isName] at hn; done) | (simp only [T.p, T.pl, PyData.depth, PyData.depthAll]; omega)
    · cases e
  | 0, .tup _, _, e => by simp [meas] at e
  | _ + 1, .tup [], _, e => by simp [meas] at e
  | _ + 1, .tup [_], _, e => by simp [meas] at e
  | _ + 1, .tup (_ :: _ :: _ :: _ :: _), _, e => by simp [meas] at e
  | 0, .non, _, e => by simp [meas] at e
  | 0, .bl _, _, e => by simp [meas] at e
  | 0, .str _, _, e => by simp [meas] at e
  | _ + 1, .non, _, e => by simp [meas] at e
  | _ + 1, .bl _, _, e => by simp [meas] at e
  | _ + 1, .str _, _, e => by simp [meas] at e
mutual
theorem canLay_ok : ∀ t : T, okT t = true → t.p.canLay0 = true
  | .non, _ => rfl
  | .bl _, _ => rfl
  | .int _, _ => rfl
  | .str z, h => by
    simp only [okT, Bool.and_eq_true, decide_eq_true_eq] at h
    exact h.2
  | .tup xs, h => canLays_ok xs h
theorem canLays_ok : ∀ ts : List T, okTs ts = true → PyData.canLayAll0 (T.pl ts) = true
  | [], _ => rfl
  | t :: ts, h => by
    simp only [okTs, Bool.and_eq_true] at h
    simp only [T.pl, PyData.canLayAll0, Bool.and_eq_true]
    exact ⟨canLay_ok t h.1, canLays_ok ts h.2⟩
end
mutual
noncomputable def size : T → Nat
  | .tup xs => 1 + sizes xs
  | _ => 1
noncomputable def sizes : List T → Nat
  | [] => 0
  | x :: xs => size x + sizes xs
end
inductive Vv where
  | item (i : Int) | app1 (z : Str) (a : Vv) | app2 (z : Str) (a b : Vv)
noncomputable def Vv.t : Vv → T
  | .item i => .int i
  | .app1 z a => .tup [.str z, a.t]
  | .app2 z a b => .tup [.str z, a.t, b.t]
noncomputable def Vv.h : Vv → Int
  | .item _ => 0
  | .app1 _ a => 1 + a.h
  | .app2 _ a b => 1 + (if b.h > a.h then b.h else a.h)
noncomputable def Vv.top : Vv → Int
  | .item i => i
  | .app1 _ a => a.top
  | .app2 _ a b => if b.top > a.top then b.top else a.top
noncomputable def Vv.good : Vv → Prop
  | .item i => 1 ≤ i
  | .app1 z a => goodNm z ∧ a.good
  | .app2 z a b => goodNm z ∧ a.good ∧ b.good
noncomputable def Vv.size : Vv → Nat
  | .item _ => 1
  | .app1 _ a => 1 + a.size
  | .app2 _ a b => 1 + a.size + b.size
theorem Vv.h_nonneg : ∀ v : Vv, 0 ≤ v.h
  | .item _ => Int.le_refl _
  | .app1 _ a => by have := a.h_nonneg; simp only [Vv.h]; omega
  | .app2 _ a b => by have := a.h_nonneg; have := b.h_nonneg; simp only [Vv.h]; split <;> omega
theorem meas_vv : ∀ (r : Nat) (v : Vv), v.good → v.h ≤ r → v.top ≤ 3 → meas r v.t = some (v.h, v.top)
  | r, .item i, g, hh, ht => by
    simp only [Vv.good, Vv.top] at g ht
    cases r <;> simp [Vv.t, meas, g, ht, Vv.h, Vv.top]
  | 0, .app1 z a, g, hh, ht => by have := a.h_nonneg; simp only [Vv.h] at hh; omega
  | 0, .app2 z a b, g, hh, ht => by have := a.h_nonneg; have := b.h_nonneg; simp only [Vv.h] at hh; split at hh <;> omega
  | r + 1, .app1 z a, g, hh, ht => by
    simp only [Vv.h] at hh
    have e := meas_vv r a g.2 (by omega) ht
    have hn : isName (.str z) = true := g.1.1
    simp only [Vv.t, meas, hn, if_true, e, Option.map, Vv.h, Vv.top]
  | r + 1, .app2 z a b, g, hh, ht => by
    have ha : a.h ≤ r := by simp only [Vv.h] at hh; split at hh <;> omega
    have hb : b.h ≤ r := by simp only [Vv.h] at hh; split at hh <;> omega
    have ta : a.top ≤ 3 := by simp only [Vv.top] at ht; split at ht <;> omega
    have tb : b.top ≤ 3 := by simp only [Vv.top] at ht; split at ht <;> omega
    have e1 := meas_vv r a g.2.1 ha ta
    have e2 := meas_vv r b g.2.2 hb tb
    have hn : isName (.str z) = true := g.1.1
    simp only [Vv.t, meas, hn, if_true, e1, e2, both2, Vv.h, Vv.top]
theorem ok_nm {z : Str} (h : goodNm z) : okT (.str z) = true := by
  simp only [okT, Bool.and_eq_true, decide_eq_true_eq]
  have : 8 ≤ sizeLine := by decide
  exact ⟨by have := h.2.1; omega, h.2.2⟩
theorem ok_vv : ∀ v : Vv, v.good → okT v.t = true ∧ (v.t.p.depth : Int) ≤ v.h ∧ size v.t ≤ 2 * v.size
  | .item i, _ => ⟨rfl, by simp [Vv.t, T.p, PyData.depth, Vv.h], by simp [Vv.t, My.size, Vv.size]⟩
  | .app1 z a, g => by
    obtain ⟨h1, h2, h3⟩ := ok_vv a g.2
    have h0 := ok_nm g.1
    refine ⟨?_, ?_, ?_⟩
    · simp only [Vv.t, okT, okTs, Bool.and_true] at *
      rw [h0, h1]; rfl
    · simp only [Vv.t, T.p, T.pl, PyData.depth, PyData.depthAll, Vv.h]; omega
    · simp only [Vv.t, My.size, sizes, Vv.size]; omega
  | .app2 z a b, g => by
    obtain ⟨h1, h2, h3⟩ := ok_vv a g.2.1
    obtain ⟨k1, k2, k3⟩ := ok_vv b g.2.2
    have h0 := ok_nm g.1
    refine ⟨?_, ?_, ?_⟩
    · simp only [Vv.t, okT, okTs, Bool.and_true] at *
      rw [h0, h1, k1]; rfl
    · simp only [Vv.t, T.p, T.pl, PyData.depth, PyData.depthAll, Vv.h]; split <;> omega
    · simp only [Vv.t, My.size, sizes, Vv.size]; omega
theorem vv_size : ∀ (r : Nat) (v : Vv), v.h ≤ r → v.size + 1 ≤ 2 ^ (r + 1)
  | r, .item _, _ => by
    have : 2 ^ 1 ≤ 2 ^ (r + 1) := Nat.pow_le_pow_right (by decide) (by omega)
    simp only [Vv.size]; omega
  | 0, .app1 z a, hh => by have := a.h_nonneg; simp only [Vv.h] at hh; omega
  | 0, .app2 z a b, hh => by have := a.h_nonneg; have := b.h_nonneg; simp only [Vv.h] at hh; split at hh <;> omega
  | r + 1, .app1 z a, hh => by
    simp only [Vv.h] at hh
    have := vv_size r a (by omega)
    have e : 2 ^ (r + 1 + 1) = 2 ^ (r + 1) + 2 ^ (r + 1) := by rw [Nat.pow_succ]; omega
    have : 2 ^ 1 ≤ 2 ^ (r + 1) := Nat.pow_le_pow_right (by decide) (by omega)
    simp only [Vv.size]; omega
  | r + 1, .app2 z a b, hh => by
    have ha : a.h ≤ r := by simp only [Vv.h] at hh; split at hh <;> omega
    have hb : b.h ≤ r := by simp only [Vv.h] at hh; split at hh <;> omega
    have := vv_size r a ha
    have := vv_size r b hb
    have e : 2 ^ (r + 1 + 1) = 2 ^ (r + 1) + 2 ^ (r + 1) := by rw [Nat.pow_succ]; omega
    simp only [Vv.size]; omega
noncomputable abbrev mkS (l : List Nat) : Str := ⟨l.toArray⟩
theorem mkS_tl (z : Str) : mkS z.cps.toList = z := by cases z; simp [mkS]
theorem tl_mkS (l : List Nat) : (mkS l).cps.toList = l := by simp [mkS]
theorem mkS_len (l : List Nat) : (mkS l).length = l.length := by simp [mkS, Str.length]
theorem mkS_inj {a b : List Nat} : mkS a = mkS b ↔ a = b := ⟨fun h => by rw [← tl_mkS a, h, tl_mkS], fun h => by rw [h]⟩
theorem cutS_mid (z : Str) (k l : Nat) : L2.cutS z (some (k : Int)) (some (l : Int)) = mkS ((z.cps.toList.drop k).take (l - k)) := by
  have hl := len_cps z
  unfold L2.cutS
  rw [HT.sIx_nat, HT.sIx_nat]
  congr 2
  by_cases h : k ≤ z.length
  · rw [Nat.min_eq_left h]
    by_cases h2 : l ≤ z.length
    · rw [Nat.min_eq_left h2]
    · rw [List.take_of_length_le (by rw [List.length_drop]; omega), List.take_of_length_le (by rw [List.length_drop]; omega)]
  · rw [List.drop_eq_nil_of_le (by omega), List.drop_eq_nil_of_le (by omega), List.take_nil, List.take_nil]
theorem mk_so {z : Str} (hz : PyData.strOk z = true) {l : List Nat} (h : ∀ c ∈ l, c ∈ z.cps.toList) : PyData.strOk (mkS l) = true := by
  have e : ∀ (y : Str), PyData.strOk y = true ↔ ∀ c ∈ y.cps.toList, c < 1114112 := fun y => by
    show y.cps.all (· < 0x110000) = true ↔ _
    rw [← Array.all_toList, List.all_eq_true]
    simp
  rw [e] at hz ⊢
  intro c hc
  rw [tl_mkS] at hc
  exact hz c (h c hc)
/-- one sign of a text -/
theorem atI_drop {l : List Nat} {p : Nat} {c : Nat} {r : List Nat} (h : l.drop p = c :: r) : L2.atI l (p : Int) = some c := by
  refine L2.atI_nat ?_
  have : (l.drop p)[0]? = some c := by rw [h]; rfl
  rw [List.getElem?_drop] at this
  simpa using this
noncomputable abbrev sgn (c : Nat) : Bool := decide (c ∈ SIG.cps.toList)
theorem sg40 : sgn 40 = false := by decide +kernel
theorem sg41 : sgn 41 = false := by decide +kernel
theorem sg44 : sgn 44 = false := by decide +kernel
noncomputable def itemT (i : Int) : List Nat := 120 :: (Str.ofString (toString i)).cps.toList
theorem itemT1 : itemT 1 = [120, 49] := by decide +kernel
theorem itemT2 : itemT 2 = [120, 50] := by decide +kernel
theorem itemT3 : itemT 3 = [120, 51] := by decide +kernel
/-- the text of a value -/
noncomputable def tx : Vv → List Nat
  | .item i => itemT i
  | .app1 z a => z.cps.toList ++ 40 :: (tx a ++ [41])
  | .app2 z a b => z.cps.toList ++ 40 :: (tx a ++ (44 :: 32 :: (tx b ++ [41])))
/-- a value of a height at most r with items up to level 3 -/
noncomputable def Good (r : Nat) (v : Vv) : Prop := v.good ∧ v.top ≤ 3 ∧ v.h ≤ r
theorem Good.mono {r k : Nat} {v : Vv} (h : Good r v) (hk : r ≤ k) : Good k v := ⟨h.1, h.2.1, by have := h.2.2; omega⟩
theorem good_item {r : Nat} {i : Int} : Good r (.item i) ↔ 1 ≤ i ∧ i ≤ 3 := by
  unfold Good
  simp only [Vv.good, Vv.top, Vv.h]
  constructor
  · rintro ⟨a, b, _⟩; exact ⟨a, b⟩
  · rintro ⟨a, b⟩; exact ⟨a, b, by omega⟩
theorem good_app1 {r : Nat} {z : Str} {a : Vv} : Good r (.app1 z a) ↔ goodNm z ∧ ∃ k, r = k + 1 ∧ Good k a := by
  unfold Good
  have h0 := a.h_nonneg
  simp only [Vv.good, Vv.top, Vv.h]
  constructor
  · rintro ⟨⟨g, ga⟩, t, h⟩
    cases r with
    | zero => omega
    | succ k => exact ⟨g, k, rfl, ga, t, by omega⟩
  · rintro ⟨g, k, rfl, ga, t, h⟩
    exact ⟨⟨g, ga⟩, t, by omega⟩
theorem good_app2 {r : Nat} {z : Str} {a b : Vv} : Good r (.app2 z a b) ↔ goodNm z ∧ ∃ k, r = k + 1 ∧ Good k a ∧ Good k b := by
  unfold Good
  have h0 := a.h_nonneg
  have h1 := b.h_nonneg
  simp only [Vv.good, Vv.top, Vv.h]
  constructor
  · rintro ⟨⟨g, ga, gb⟩, t, h⟩
    cases r with
    | zero => split at h <;> omega
    | succ k => exact ⟨g, k, rfl, ⟨ga, by split at t <;> omega, by split at h <;> omega⟩, ⟨gb, by split at t <;> omega, by split at h <;> omega⟩⟩
  · rintro ⟨g, k, rfl, ⟨ga, ta, ha⟩, gb, tb, hb⟩
    exact ⟨⟨g, ga, gb⟩, by split <;> omega, by split <;> omega⟩
theorem isNm_good {z : Str} (h : isNm z = true) : goodNm z := by
  unfold isNm at h
  split at h
  · cases h
  · rename_i c r e
    simp only [Bool.and_eq_true, decide_eq_true_eq, List.all_eq_true] at h
    have hz : z.length = r.length + 1 := by rw [len_cps, e]; rfl
    exact good_chars e h.2.1 (fun x hx => h.2.2 x (List.mem_cons_of_mem _ hx)) (by omega)
theorem nm_signs {z : Str} (h : isNm z = true) : ∀ c ∈ z.cps.toList, sgn c = true := by
  unfold isNm at h
  split at h
  · cases h
  · rename_i c r e
    simp only [Bool.and_eq_true, decide_eq_true_eq, List.all_eq_true] at h
    intro x hx
    rw [e] at hx
    exact decide_eq_true (h.2.2 x hx)
/-- x1, x2, x3 -/
noncomputable def itemOf (l : List Nat) : Option Int := if l = [120, 49] then some 1 else if l = [120, 50] then some 2 else if l = [120, 51] then some 3 else none
theorem itemOf_some {l : List Nat} {i : Int} (h : itemOf l = some i) : l = itemT i ∧ 1 ≤ i ∧ i ≤ 3 := by
  unfold itemOf at h
  split at h
  · cases h; rename_i e; exact ⟨by rw [e, itemT1], by decide, by decide⟩
  · split at h
    · cases h; rename_i e; exact ⟨by rw [e, itemT2], by decide, by decide⟩
    · split at h
      · cases h; rename_i e; exact ⟨by rw [e, itemT3], by decide, by decide⟩
      · cases h
theorem itemOf_item {i : Int} (h1 : 1 ≤ i) (h3 : i ≤ 3) : itemOf (itemT i) = some i ∧ (∀ c ∈ itemT i, sgn c = true) ∧ (∀ c ∈ itemT i, c ≠ 40 ∧ c ≠ 41 ∧ c ≠ 44) := by
  have h : i = 1 ∨ i = 2 ∨ i = 3 := by omega
  rcases h with rfl | rfl | rfl
  · rw [itemT1]; decide +kernel
  · rw [itemT2]; decide +kernel
  · rw [itemT3]; decide +kernel
noncomputable def nameL (l : List Nat) : List Nat := l.takeWhile sgn
noncomputable def restL (l : List Nat) : List Nat := l.dropWhile sgn
theorem name_rest (l : List Nat) : nameL l ++ restL l = l := List.takeWhile_append_dropWhile
noncomputable def rdT3 (z : Str) (a b : Vv) : List Nat → Option (Vv × List Nat)
  | 41 :: r => some (.app2 z a b, r)
  | _ => none
/-- what stands behind the first part -/
noncomputable def rdT2 (rd : List Nat → Option (Vv × List Nat)) (z : Str) (a : Vv) : List Nat → Option (Vv × List Nat)
  | 41 :: r => some (.app1 z a, r)
  | 44 :: 32 :: r => match rd r with
    | none => none
    | some (b, q) => rdT3 z a b q
  | _ => none
noncomputable def rdTail (rd : List Nat → Option (Vv × List Nat)) (z : Str) (l : List Nat) : Option (Vv × List Nat) := match rd l with
  | none => none
  | some (a, q) => rdT2 rd z a q
/-- a name, and what is made of it when a bracket opens behind it -/
noncomputable def rdHd (op : List Nat → Option (Vv × List Nat)) (l : List Nat) : Option (Vv × List Nat) := match restL l with
  | 40 :: q => op q
  | q => (itemOf (nameL l)).map fun i => (.item i, q)
noncomputable def rdP : Nat → List Nat → Option (Vv × List Nat)
  | 0, l => rdHd (fun _ => none) l
  | k + 1, l => rdHd (fun q => if isNm (mkS (nameL l)) = true then rdTail (rdP k) (mkS (nameL l)) q else none) l
theorem rdP_open {k : Nat} {l q : List Nat} (h : restL l = 40 :: q) : rdP (k + 1) l = if isNm (mkS (nameL l)) = true then rdTail (rdP k) (mkS (nameL l)) q else none := by
  rw [rdP, rdHd, h]
  rfl
theorem rdP_open0 {l q : List Nat} (h : restL l = 40 :: q) : rdP 0 l = none := by
  rw [rdP, rdHd, h]
  rfl
theorem rdHd_item {op : List Nat → Option (Vv × List Nat)} {l : List Nat} (h : ∀ q, restL l ≠ 40 :: q) : rdHd op l = (itemOf (nameL l)).map fun i => (.item i, restL l) := by
  unfold rdHd
  split
  · rename_i e; exact absurd e (h _)
  · rfl
theorem rdP_item {r : Nat} {l : List Nat} (h : ∀ q, restL l ≠ 40 :: q) : rdP r l = (itemOf (nameL l)).map fun i => (.item i, restL l) := by
  cases r with
  | zero => rw [rdP, rdHd_item h]
  | succ k => rw [rdP, rdHd_item h]
theorem rdT2_sound {rd : List Nat → Option (Vv × List Nat)} {k : Nat} (hrd : ∀ l v q, rd l = some (v, q) → l = tx v ++ q ∧ Good k v) {z : Str} (hz : goodNm z) {a : Vv} (ha : Good k a) {l q : List Nat} {v : Vv} (h : rdT2 rd z a l = some (v, q)) :
    z.cps.toList ++ 40 :: (tx a ++ l) = tx v ++ q ∧ Good (k + 1) v := by
  unfold rdT2 at h
  split at h
  · cases h
    exact ⟨by simp [tx], good_app1.mpr ⟨hz, k, rfl, ha⟩⟩
  · split at h
    · cases h
    · rename_i b q1 e
      obtain ⟨e1, gb⟩ := hrd _ _ _ e
      unfold rdT3 at h
      split at h
      · cases h
        exact ⟨by rw [e1]; simp [tx], good_app2.mpr ⟨hz, k, rfl, ha, gb⟩⟩
      · cases h
  · cases h
theorem rdP_sound : ∀ (r : Nat) (l : List Nat) (v : Vv) (q : List Nat), rdP r l = some (v, q) → l = tx v ++ q ∧ Good r v
  | r, l, v, q, h => by
    by_cases ho : ∃ q1, restL l = 40 :: q1
    · obtain ⟨q1, e⟩ := ho
      cases r with
      | zero => rw [rdP_open0 e] at h; cases h
      | succ k =>
        rw [rdP_open e] at h
        split at h
        · rename_i hn
          unfold rdTail at h
          split at h
          · cases h
          · rename_i a q2 ea
            obtain ⟨e1, ga⟩ := rdP_sound k _ _ _ ea
            obtain ⟨e2, gv⟩ := rdT2_sound (fun l v q => rdP_sound k l v q) (isNm_good hn) ga h
            refine ⟨?_, gv⟩
            rw [← e2, tl_mkS, ← e1, ← e, name_rest]
        · cases h
    · rw [rdP_item (fun q e => ho ⟨q, e⟩)] at h
      obtain ⟨i, e1, e2⟩ := Option.map_eq_some_iff.mp h
      cases e2
      obtain ⟨e3, h1, h3⟩ := itemOf_some e1
      exact ⟨by rw [tx, ← e3, name_rest], good_item.mpr ⟨h1, h3⟩⟩
theorem span_app {l q : List Nat} (h : ∀ c ∈ l, sgn c = true) (hq : ∀ c r, q = c :: r → sgn c = false) : nameL (l ++ q) = l ∧ restL (l ++ q) = q := by
  induction l with
  | nil =>
    cases q with
    | nil => exact ⟨rfl, rfl⟩
    | cons c r =>
      have e := hq c r rfl
      unfold nameL restL
      rw [List.nil_append, List.takeWhile_cons, List.dropWhile_cons, e]
      exact ⟨rfl, rfl⟩
  | cons c l ih =>
    obtain ⟨i1, i2⟩ := ih fun x hx => h x (List.mem_cons_of_mem _ hx)
    have e := h c List.mem_cons_self
    unfold nameL restL at *
    rw [List.cons_append, List.takeWhile_cons, List.dropWhile_cons, e]
    exact ⟨congrArg (c :: ·) i1, i2⟩
/-- what may stand behind an item -/
noncomputable def Ends (q : List Nat) : Prop := ∀ c r, q = c :: r → sgn c = false ∧ c ≠ 40
theorem ends41 (q : List Nat) : Ends (41 :: q) := fun c r e => by cases e; exact ⟨sg41, by decide⟩
theorem ends44 (q : List Nat) : Ends (44 :: q) := fun c r e => by cases e; exact ⟨sg44, by decide⟩
theorem ends_nil : Ends [] := fun c r e => nomatch e
theorem rdP_complete : ∀ (v : Vv) (r : Nat) (q : List Nat), Good r v → Ends q → rdP r (tx v ++ q) = some (v, q)
  | .item i, r, q, g, hq => by
    obtain ⟨h1, h3⟩ := good_item.mp g
    obtain ⟨e1, e2, _⟩ := itemOf_item h1 h3
    obtain ⟨s1, s2⟩ := span_app (l := itemT i) (q := q) e2 fun c r e => (hq c r e).1
    rw [tx, rdP_item (fun q' e => ?_), s1, s2, e1]
    · rfl
    · rw [s2] at e
      exact (hq 40 q' e).2 rfl
  | .app1 z a, r, q, g, hq => by
    obtain ⟨gz, k, rfl, ga⟩ := good_app1.mp g
    have e : tx (.app1 z a) ++ q = z.cps.toList ++ (40 :: (tx a ++ (41 :: q))) := by simp [tx]
    obtain ⟨s1, s2⟩ := span_app (l := z.cps.toList) (q := 40 :: (tx a ++ (41 :: q))) (nm_signs gz.1) fun c r e => by cases e; exact sg40
    rw [e, rdP_open s2, s1, mkS_tl, if_pos gz.1]
    unfold rdTail
    rw [rdP_complete a k (41 :: q) ga (ends41 q)]
    rfl
  | .app2 z a b, r, q, g, hq => by
    obtain ⟨gz, k, rfl, ga, gb⟩ := good_app2.mp g
    have e : tx (.app2 z a b) ++ q = z.cps.toList ++ (40 :: (tx a ++ (44 :: 32 :: (tx b ++ (41 :: q))))) := by simp [tx]
    obtain ⟨s1, s2⟩ := span_app (l := z.cps.toList) (q := 40 :: (tx a ++ (44 :: 32 :: (tx b ++ (41 :: q))))) (nm_signs gz.1) fun c r e => by cases e; exact sg40
    rw [e, rdP_open s2, s1, mkS_tl, if_pos gz.1]
    unfold rdTail
    rw [rdP_complete a k _ ga (ends44 _)]
    show (match rdP k (tx b ++ (41 :: q)) with | none => none | some (b, q) => rdT3 z a b q) = _
    rw [rdP_complete b k _ gb (ends41 q)]
    rfl
theorem tx_len : ∀ (v : Vv) (r : Nat), Good r v → (tx v).length + 4 ≤ 14 * v.size
  | .item i, r, g => by
    obtain ⟨h1, h3⟩ := good_item.mp g
    have h : i = 1 ∨ i = 2 ∨ i = 3 := by omega
    rcases h with rfl | rfl | rfl <;> simp only [tx, itemT1, itemT2, itemT3, Vv.size] <;> decide
  | .app1 z a, r, g => by
    obtain ⟨gz, k, rfl, ga⟩ := good_app1.mp g
    have := tx_len a k ga
    have := gz.2.1
    rw [len_cps] at this
    simp only [tx, Vv.size, List.length_append, List.length_cons, List.length_nil]; omega
  | .app2 z a b, r, g => by
    obtain ⟨gz, k, rfl, ga, gb⟩ := good_app2.mp g
    have := tx_len a k ga
    have := tx_len b k gb
    have := gz.2.1
    rw [len_cps] at this
    simp only [tx, Vv.size, List.length_append, List.length_cons, List.length_nil]; omega
theorem tx_short {r : Nat} {v : Vv} (g : Good r v) : (tx v).length ≤ 14 * 2 ^ (r + 1) := by
  have := tx_len v r g
  have := vv_size r v g.2.2
  omega
noncomputable def neT : CE := match b_name_end with
  | .whileS t _ :: _ => t
  | _ => .cst .non
noncomputable def neB : List CS := match b_name_end with
  | .whileS _ b :: _ => b
  | _ => []
theorem nend_loop {G : G3} {ex : Kxs} {z : Str} {D : EndsC} {C : CH} (hz : z.length ≤ sizeLine) : ∀ (m p : Nat), z.length < m + p → p ≤ z.length →
    D.nx [some (.str z), some (.int ((p + (nameL (z.cps.toList.drop p)).length : Nat) : Int))] C → whileN (rdT G ex neT) (rdSs G ex neB) D m [some (.str z), some (.int (p : Nat))] C
  | 0, p, h1, h2, hK => by omega
  | m + 1, p, h1, h2, hK => by
    have hl := len_cps z
    unfold whileN
    conv => rw [neT, b_name_end]
    dsimp only
    simp_arith []
    refine ⟨hz, ?_⟩
    by_cases hp : p < z.length
    · have hp' : ((p : Nat) : Int) < ((z.length : Nat) : Int) := by omega
      rw [if_pos (decide_eq_true hp')]
      obtain ⟨c, r, e⟩ : ∃ c r, z.cps.toList.drop p = c :: r := by
        cases q : z.cps.toList.drop p with
        | nil => have := List.drop_eq_nil_iff.mp q; omega
        | cons c r => exact ⟨c, r, rfl⟩
      refine ⟨hz, c, atI_drop e, ?_⟩
      refine ⟨_, rfl, ?_⟩
      rw [e] at hK
      by_cases hc : sgn c = true
      · have hc' : decide (c ∈ (Str.ofString "abcdefghijklmnopqrstuvwxyz0123456789").cps.toList) = true := hc
        rw [if_pos hc']
        conv => rw [neB, b_name_end]
        dsimp only
        rw [rdSs_cons]
        simp_arith []
        refine ⟨.int (p : Nat), rfl, ?_⟩
        have e2 : z.cps.toList.drop (p + 1) = r := by rw [← List.drop_drop, e]; rfl
        have e3 : nameL (c :: r) = c :: nameL r := by unfold nameL; rw [List.takeWhile_cons, if_pos hc]
        rw [e3] at hK
        have := nend_loop (G := G) (ex := ex) (D := D) (C := C) hz m (p + 1) (by omega) (by omega) (by rw [e2]; simp only [List.length_cons] at hK; rw [show p + 1 + (nameL r).length = p + ((nameL r).length + 1) by omega]; exact hK)
        exact this
      · have e3 : nameL (c :: r) = [] := by unfold nameL; rw [List.takeWhile_cons, if_neg hc]
        rw [e3] at hK
        have hc' : ¬ decide (c ∈ (Str.ofString "abcdefghijklmnopqrstuvwxyz0123456789").cps.toList) = true := hc
        rw [if_neg hc']
        exact hK
    · have hp' : ¬ ((p : Nat) : Int) < ((z.length : Nat) : Int) := by omega
      rw [if_neg (by simp [hp'])]
      have e : z.cps.toList.drop p = [] := List.drop_eq_nil_of_le (by omega)
      rw [e] at hK
      exact hK
theorem name_end_ok {n p : Nat} {z : Str} {C : CH} {Q : Kv} {E : Kx} (hz : z.length ≤ sizeLine) (hp : p ≤ z.length) (hq : Q (.int ((p + (nameL (z.cps.toList.drop p)).length : Nat) : Int)) C) : W (n + 1) i_name_end [.str z, .int (p : Nat)] C Q E := by
  rw [W_name_end]
  unfold b_name_end
  rw [rdSs_cons, rdS_while]
  refine ⟨z.length + 1, ?_⟩
  refine (show whileN (rdT (GG n) (exN E) neT) (rdSs (GG n) (exN E) neB) _ _ _ _ from nend_loop hz _ p (by omega) hp ?_)
  dsimp only
  rw [rdSs_cons]
  simp_arith []
  exact ⟨C, Sub.refl, hq⟩
theorem s_open : Str.ofString "(" = mkS [40] := by decide +kernel
theorem s_close : Str.ofString ")" = mkS [41] := by decide +kernel
theorem s_comma : Str.ofString ", " = mkS [44, 32] := by decide +kernel
theorem s_x1 : Str.ofString "x1" = mkS [120, 49] := by decide +kernel
theorem s_x2 : Str.ofString "x2" = mkS [120, 50] := by decide +kernel
theorem s_x3 : Str.ofString "x3" = mkS [120, 51] := by decide +kernel
theorem oInF_str3 {f : Bool → Bool} {w a b c : Str} {C : CH} {Q : Kv} : oInF f (.str w) (.tup [.str a, .str b, .str c]) C Q ↔ Q (.bl (f (decide (w = a) || (decide (w = b) || decide (w = c))))) C := by
  have e : L2.inV (toV (.str w)) ([D.str a, D.str b, D.str c].map toV) = (decide (w = a) || (decide (w = b) || decide (w = c))) := by
    show ((L2.eqV (.str a) (.str w)) || ((L2.eqV (.str b) (.str w)) || ((L2.eqV (.str c) (.str w)) || false))) = _
    rw [Bool.or_false]
    have q : ∀ x : Str, L2.eqV (.str x) (.str w) = decide (w = x) := fun x => by
      by_cases h : w = x
      · subst h; simp [L2.eqV]
      · have h' : ¬ x = w := fun z => h z.symm
        simp [L2.eqV, h, h']
    rw [q, q, q]
  constructor
  · rintro ⟨ds, h1, _, _, h⟩
    rw [SqC_tup] at h1
    subst h1
    rw [e] at h
    exact h
  · intro h
    exact ⟨_, SqC_tup.mpr rfl, rfl, rfl, by rw [e]; exact h⟩
theorem item_in (l : List Nat) : (decide (mkS l = Str.ofString "x1") || (decide (mkS l = Str.ofString "x2") || decide (mkS l = Str.ofString "x3"))) = (itemOf l).isSome := by
  rw [s_x1, s_x2, s_x3]
  simp only [mkS_inj]
  unfold itemOf
  by_cases h1 : l = [120, 49]
  · simp [h1]
  · by_cases h2 : l = [120, 50]
    · simp [h2]
    · by_cases h3 : l = [120, 51]
      · simp [h3]
      · simp [h1, h2, h3]
/-- int(name[1]) -/
theorem item_digit {l : List Nat} {i : Int} (h : itemOf l = some i) : ∃ c, L2.atI l 1 = some c ∧ PySem.intText? ⟨#[c]⟩ = some i := by
  unfold itemOf at h
  split at h
  · cases h; rename_i e; rw [e]; exact ⟨49, atI_one, by decide +kernel⟩
  · split at h
    · cases h; rename_i e; rw [e]; exact ⟨50, atI_one, by decide +kernel⟩
    · split at h
      · cases h; rename_i e; rw [e]; exact ⟨51, atI_one, by decide +kernel⟩
      · cases h
theorem cutS_m1 (z : Str) (k : Nat) : L2.cutS z (some (k : Int)) (some ((k : Int) + 1)) = mkS ((z.cps.toList.drop k).take 1) := by
  have := cutS_mid z k (k + 1)
  rw [show k + 1 - k = 1 by omega] at this
  exact this
theorem cutS_m2 (z : Str) (k : Nat) : L2.cutS z (some (k : Int)) (some ((k : Int) + 2)) = mkS ((z.cps.toList.drop k).take 2) := by
  have := cutS_mid z k (k + 2)
  rw [show k + 2 - k = 2 by omega] at this
  exact this
/-- what read_at answers -/
noncomputable def rdD (n : Nat) : Option (Vv × List Nat) → D
  | none => .non
  | some (v, q) => .tup [v.t.d, .int ((n - q.length : Nat) : Int)]
theorem name_take (l : List Nat) : l.take (nameL l).length = nameL l := by
  have := List.take_left (l₁ := nameL l) (l₂ := restL l)
  rw [name_rest] at this
  exact this
theorem rest_drop (l : List Nat) : l.drop (nameL l).length = restL l := by
  have := List.drop_left (l₁ := nameL l) (l₂ := restL l)
  rw [name_rest] at this
  exact this
noncomputable def raW : List CS := match b_read_at with
  | _ :: _ :: _ :: _ :: _ :: _ :: .whileS _ b :: _ => b
  | _ => []
noncomputable def raT : CE := match b_read_at with
  | _ :: _ :: _ :: _ :: _ :: _ :: .whileS t _ :: _ => t
  | _ => .cst .non
theorem drop_mem {l : List Nat} {k m : Nat} : ∀ c ∈ (l.drop k).take m, c ∈ l := fun c h => List.mem_of_mem_drop (List.mem_of_mem_take h)
/-- tuple(parts) -/
theorem oTuple_lst {C : CH} {p : Addr} {ds : List D} {Q : Kv} (h : C p = some (.lst ds)) (q : Q (.tup ds) C) : oTuple [.ref p] C Q := ⟨_, ds, rfl, .inr (.inr ⟨p, rfl, h⟩), q⟩
theorem oAppend_at {C : CH} {p : Addr} {xs : List D} {y : D} {Q : Kv} (h : C p = some (.lst xs)) (hl : xs.length < sizeLine) (q : Q .non (cup C p (.lst (xs ++ [y])))) : oAppend (.ref p) [y] C Q := ⟨p, xs, y, rfl, rfl, h, hl, q⟩
/-- one part is read, and what stands behind it is looked at -/
theorem ra_round {n k m : Nat} {z : Str} {ex : Kxs} {D0 : EndsC} {y1 y4 y6 : Option D} {C : CH} {P : Addr} {ds : List D} {q : List Nat} {e : Nat} (hz : z.length ≤ sizeLine) (so : PyData.strOk z = true)
    (ih : ∀ (p : Nat) (C : CH) (Q : Kv) (E : Kx), p ≤ z.length → Q (rdD z.length (rdP k (z.cps.toList.drop p))) C → W n i_read_at [.str z, .int (p : Nat), .int (k : Nat)] C Q E)
    (he : e ≤ z.length) (eq_ : z.cps.toList.drop e = q) (hP : C P = some (.lst ds)) (hd : ds.length < 3)
    (hN : rdP k q = none → D0.rt .non C)
    (hS : ∀ a q2, rdP k q = some (a, q2) → ∀ e2, z.cps.toList.drop e2 = q2 → e2 ≤ z.length →
      (q2.take 2 = [44, 32] → whileN (rdT (GG n) ex raT) (rdSs (GG n) ex raW) D0 m [some (.str z), y1, some (.int ((k + 1 : Nat) : Int)), some (.int ((e2 + 2 : Nat) : Int)), y4, some (.ref P), some (.tup [a.t.d, .int (e2 : Nat)])] (cup C P (.lst (ds ++ [a.t.d])))) ∧
      (q2.take 2 ≠ [44, 32] → D0.rt (if q2.take 1 = [41] then .tup [.tup (ds ++ [a.t.d]), .int ((e2 + 1 : Nat) : Int)] else .non) (cup C P (.lst (ds ++ [a.t.d]))))) :
    whileN (rdT (GG n) ex raT) (rdSs (GG n) ex raW) D0 (m + 1) [some (.str z), y1, some (.int ((k + 1 : Nat) : Int)), some (.int (e : Nat)), y4, some (.ref P), y6] C := by
  have hl := len_cps z
  unfold whileN
  conv => rw [raT, b_read_at]
  dsimp only
  simp_arith [hP]
  have hd' : ((ds.length : Nat) : Int) < 3 := by omega
  rw [if_pos (decide_eq_true hd')]
  conv => rw [raW, b_read_at]
  dsimp only
  rw [rdSs_cons]
  have ek : ((k + 1 : Nat) : Int) - 1 = (k : Nat) := by omega
  simp_arith [GG_call, ek]
  refine ih e C _ _ he ?_
  rw [eq_]
  cases hr : rdP k q with
  | none =>
    rw [rdD]
    rw [rdSs_cons]
    simp_arith []
    exact hN hr
  | some aq =>
    obtain ⟨a, q2⟩ := aq
    obtain ⟨e1, _⟩ := rdP_sound _ _ _ _ hr
    have hlen : q.length = z.length - e := by rw [← eq_, List.length_drop, ← hl]
    have l1 : q.length = (tx a).length + q2.length := by rw [e1, List.length_append]
    rw [rdD]
    have e2 : z.cps.toList.drop (z.length - q2.length) = q2 := by
      have : z.length - q2.length = e + (tx a).length := by omega
      rw [this, ← List.drop_drop, eq_, e1, List.drop_left]
    obtain ⟨s1, s2⟩ := hS a q2 hr _ e2 (by omega)
    generalize z.length - q2.length = e' at e2 s1 s2 ⊢
    rw [rdSs_cons]
    simp_arith []
    rw [rdSs_cons]
    simp_arith []
    refine ⟨⟨P, ds, rfl, hP⟩, oAppend_at hP (Nat.lt_of_lt_of_le hd (by decide)) ?_⟩
    rw [rdSs_cons]
    simp_arith []
    rw [rdSs_cons]
    simp_arith []
    have so2 : ∀ j, PyData.strOk (mkS (q2.take j)) = true := fun j => mk_so so fun c hc => drop_mem (k := e') (m := j) c (by rw [e2]; exact hc)
    have soc : PyData.strOk (mkS [44, 32]) = true := by decide +kernel
    have sop : PyData.strOk (mkS [41]) = true := by decide +kernel
    refine ⟨hz, ?_⟩
    rw [cutS_m2, e2, s_comma, oEqN_strI (so2 2) soc]
    simp_arith [mkS_inj]
    by_cases hc : q2.take 2 = [44, 32]
    · rw [if_neg (by simp [hc])]
      rw [rdSs_cons]
      simp_arith []
      refine ⟨.int (e' : Nat), rfl, ?_⟩
      exact s1 hc
    · rw [if_pos (by simp [hc])]
      rw [rdSs_cons]
      simp_arith []
      refine ⟨hz, ?_⟩
      rw [cutS_m1, e2, s_close, oEqN_strI (so2 1) sop]
      simp_arith [mkS_inj]
      have := s2 hc
      by_cases h1 : q2.take 1 = [41]
      · rw [if_pos h1] at this
        rw [if_pos (decide_eq_true h1)]
        exact oTuple_lst cup_same this
      · rw [if_neg h1] at this
        rw [if_neg (by simp [h1])]
        exact this
theorem rdD_item {N : Nat} {i : Int} {q : List Nat} : rdD N (some (.item i, q)) = .tup [.int i, .int ((N - q.length : Nat) : Int)] := rfl
theorem rdT2_none {rd : List Nat → Option (Vv × List Nat)} {z : Str} {a : Vv} {q : List Nat} (h1 : q.take 2 ≠ [44, 32]) (h2 : q.take 1 ≠ [41]) : rdT2 rd z a q = none := by
  unfold rdT2
  split
  · simp at h2
  · simp at h1
  · rfl
theorem take1 {q : List Nat} {c : Nat} (h : q.take 1 = [c]) : ∃ r, q = c :: r := by
  match q, h with
  | a :: r, h => simp at h; exact ⟨r, by rw [h]⟩
  | [], h => simp at h
theorem take2 {q : List Nat} {c d : Nat} (h : q.take 2 = [c, d]) : ∃ r, q = c :: d :: r := by
  match q, h with
  | a :: b :: r, h => simp at h; exact ⟨r, by rw [h.1, h.2]⟩
  | [a], h => simp at h
  | [], h => simp at h
theorem drop_pos {l : List Nat} {e c : Nat} {r : List Nat} (h : l.drop e = c :: r) : l.length - r.length = e + 1 ∧ e + 1 ≤ l.length := by
  have := congrArg List.length h
  rw [List.length_drop] at this
  simp only [List.length_cons] at this
  omega
theorem app1_d {z : Str} {a : Vv} : (Vv.app1 z a).t.d = .tup [.str z, a.t.d] := by simp only [Vv.t, T.d, T.ds]
theorem app2_d {z : Str} {a b : Vv} : (Vv.app2 z a b).t.d = .tup [.str z, a.t.d, b.t.d] := by simp only [Vv.t, T.d, T.ds]
theorem read_at_ok : ∀ (r n p : Nat) (z : Str) (C : CH) (Q : Kv) (E : Kx), z.length ≤ sizeLine → PyData.strOk z = true → p ≤ z.length → Q (rdD z.length (rdP r (z.cps.toList.drop p))) C → W (n + r + 2) i_read_at [.str z, .int (p : Nat), .int (r : Nat)] C Q E
  | r, n, p, z, C, Q, E, hz, so, hp, hq => by
    have hl := len_cps z
    generalize hL : z.cps.toList.drop p = l at hq
    have hnr := name_rest l
    have hlen : l.length = z.length - p := by rw [← hL, List.length_drop, ← hl]
    have hle : (nameL l).length + (restL l).length = l.length := by rw [← List.length_append, hnr]
    have he : z.cps.toList.drop (p + (nameL l).length) = restL l := by rw [← List.drop_drop, hL, rest_drop]
    have hE : z.length - (restL l).length = p + (nameL l).length := by omega
    rw [W_read_at]
    unfold b_read_at
    rw [rdSs_cons]
    simp_arith [GG_call]
    refine name_end_ok hz hp ?_
    rw [hL]
    have hmid : L2.cutS z (some (p : Int)) (some ((p + (nameL l).length : Nat) : Int)) = mkS (nameL l) := by
      rw [cutS_mid, hL, show p + (nameL l).length - p = (nameL l).length by omega, name_take]
    generalize p + (nameL l).length = e at hmid he hE
    rw [rdSs_cons]
    simp_arith []
    refine ⟨hz, ?_⟩
    rw [hmid]
    have nl : (mkS (nameL l)).length ≤ sizeLine := by rw [mkS_len]; omega
    have nso : PyData.strOk (mkS (nameL l)) = true := mk_so so fun c hc => List.mem_of_mem_drop (i := p) (by rw [hL, ← hnr]; exact List.mem_append_left _ hc)
    have rso : ∀ j, PyData.strOk (mkS ((restL l).take j)) = true := fun j => mk_so so fun c hc => drop_mem (k := e) (m := j) c (by rw [he]; exact hc)
    have soo : PyData.strOk (mkS [40]) = true := by decide +kernel
    rw [rdSs_cons]
    simp_arith []
    refine ⟨hz, ?_⟩
    rw [cutS_m1, he, s_open, oEqN_strI (rso 1) soo]
    simp_arith [mkS_inj]
    by_cases ho : ∃ q, restL l = 40 :: q
    · obtain ⟨q, eq_⟩ := ho
      rw [if_neg (by simp [eq_])]
      rw [rdSs_cons]
      cases r with
      | zero =>
        rw [rdP_open0 eq_] at hq
        simp_arith []
        rw [rdSs_cons]
        simp_arith []
        exact ⟨C, Sub.refl, hq⟩
      | succ k =>
        rw [rdP_open eq_] at hq
        have hr0 : (((k + 1 : Nat) : Int) = 0) = False := by simp; omega
        simp_arith [GG_call, hr0, decide_false]
        refine is_name_ok (t := .str (mkS (nameL l))) ?_ (fun y hy => by cases hy; exact nl)
        by_cases hn : isNm (mkS (nameL l)) = true
        · rw [if_pos hn] at hq
          have hn' : isName (.str (mkS (nameL l))) = true := hn
          simp_arith [hn']
          have eq1 : z.cps.toList.drop (e + 1) = q := by rw [← List.drop_drop, he, eq_]; rfl
          have hq1 : 1 ≤ (restL l).length := by rw [eq_]; simp
          rw [rdSs_cons]
          simp_arith [oLst]
          intro P hP
          rw [rdSs_cons]
          simp_arith []
          refine ⟨_, rfl, ?_⟩
          refine (show rdSs (GG (n + k + 2)) (exN E) [.whileS raT raW, .ret (.cst .non)] (endN Q) [some (.str z), some (.int (p : Nat)), some (.int ((k + 1 : Nat) : Int)), some (.int ((e + 1 : Nat) : Int)), some (.str (mkS (nameL l))), some (.ref P), none] (cup C P (.lst [.str (mkS (nameL l))])) from ?_)
          rw [rdSs_cons, rdS_while]
          refine ⟨3, ?_⟩
          unfold rdTail at hq
          refine (show whileN (rdT (GG (n + k + 2)) (exN E) raT) (rdSs (GG (n + k + 2)) (exN E) raW) _ (2 + 1) _ _ from ra_round (k := k) (m := 2) (e := e + 1) hz so
            (fun p C Q E h h2 => read_at_ok k n p z C Q E hz so h h2) (by omega) eq1 cup_same (by simp) (fun hr => ?_) fun a q2 hr e2 hd2 hl2 => ⟨fun hc => ?_, fun hc => ?_⟩)
          · rw [hr] at hq
            exact ⟨C, sub_new hP, hq⟩
          · rw [hr] at hq
            obtain ⟨q3, rfl⟩ := take2 hc
            have d3 : z.cps.toList.drop (e2 + 2) = q3 := by rw [← List.drop_drop, hd2]; rfl
            have l3 : e2 + 2 ≤ z.length := by
              have := congrArg List.length hd2
              rw [List.length_drop] at this
              simp only [List.length_cons] at this
              omega
            have hq' : Q (rdD z.length (match rdP k q3 with | none => none | some (b, q) => rdT3 (mkS (nameL l)) a b q)) C := hq
            refine ra_round (k := k) (m := 1) hz so (fun p C Q E h h2 => read_at_ok k n p z C Q E hz so h h2) l3 d3 cup_same (by simp) (fun hr2 => ?_) fun b q4 hr2 e4 hd4 hl4 => ⟨fun hc4 => ?_, fun hc4 => ?_⟩
            · rw [hr2] at hq'
              exact ⟨C, sub_at hP (sub_new hP), hq'⟩
            · rw [hr2] at hq'
              obtain ⟨q5, rfl⟩ := take2 hc4
              unfold whileN
              conv => rw [raT, b_read_at]
              dsimp only
              simp_arith [cup_same]
              rw [if_neg (by simp), rdSs_cons]
              simp_arith []
              exact ⟨C, sub_at hP (sub_at hP (sub_new hP)), hq'⟩
            · rw [hr2] at hq'
              by_cases h1 : q4.take 1 = [41]
              · obtain ⟨q5, rfl⟩ := take1 h1
                obtain ⟨dp, _⟩ := drop_pos hd4
                rw [if_pos h1]
                rw [← hl] at dp
                have hq2 : Q (.tup [(Vv.app2 (mkS (nameL l)) a b).t.d, .int ((z.length - q5.length : Nat) : Int)]) C := hq'
                rw [dp, app2_d] at hq2
                exact ⟨C, sub_at hP (sub_at hP (sub_new hP)), hq2⟩
              · rw [if_neg h1]
                have e0 : rdT3 (mkS (nameL l)) a b q4 = none := by
                  unfold rdT3
                  split
                  · simp at h1
                  · rfl
                have hq2 : Q (rdD z.length (rdT3 (mkS (nameL l)) a b q4)) C := hq'
                rw [e0] at hq2
                exact ⟨C, sub_at hP (sub_at hP (sub_new hP)), hq2⟩
          · rw [hr] at hq
            have hq' : Q (rdD z.length (rdT2 (rdP k) (mkS (nameL l)) a q2)) C := hq
            by_cases h1 : q2.take 1 = [41]
            · obtain ⟨q5, rfl⟩ := take1 h1
              obtain ⟨dp, _⟩ := drop_pos hd2
              rw [if_pos h1]
              rw [← hl] at dp
              have hq2 : Q (.tup [(Vv.app1 (mkS (nameL l)) a).t.d, .int ((z.length - q5.length : Nat) : Int)]) C := hq'
              rw [dp, app1_d] at hq2
              exact ⟨C, sub_at hP (sub_new hP), hq2⟩
            · rw [if_neg h1]
              rw [rdT2_none hc h1] at hq'
              exact ⟨C, sub_at hP (sub_new hP), hq'⟩
        · rw [if_neg hn] at hq
          have hn' : isName (.str (mkS (nameL l))) = false := by simpa [isName] using hn
          simp_arith [hn']
          rw [rdSs_cons]
          simp_arith []
          exact ⟨C, Sub.refl, hq⟩
    · have h1 : (restL l).take 1 ≠ [40] := by
        cases q : restL l with
        | nil => simp
        | cons c r' => intro z; simp at z; exact ho ⟨r', by rw [q, z]⟩
      rw [if_pos (by simp [h1])]
      rw [rdSs_cons]
      rw [rdP_item (fun q z => ho ⟨q, z⟩)] at hq
      simp_arith []
      rw [oInF_str3, item_in]
      cases hi : itemOf (nameL l) with
      | none =>
        rw [hi] at hq
        simp_arith [Option.isSome]
        exact ⟨C, Sub.refl, hq⟩
      | some i =>
        rw [hi] at hq
        obtain ⟨c, c1, c2⟩ := item_digit hi
        simp_arith [Option.isSome]
        rw [Option.map_some, rdD_item, hE] at hq
        exact ⟨nl, c, c1, _, _, rfl, c2, by show 1 ≤ 640; decide, C, Sub.refl, hq⟩
theorem sizes_of_ok {n : Nat} {t : T} {q : Int × Int} {C : CH} {Q : Kv} {E : Kx} (ho : okT t = true) (hm : meas 4 t = some q) (hq : Q (.tup [.int q.1, .int q.2]) C) : W (n + 7) i_sizes_of [t.d] C Q E := by
  rw [W_sizes_of]
  unfold b_sizes_of
  simp_arith! [GG_call]
  refine measured_ok 4 n t C _ _ ho ?_
  rw [hm]
  simp_arith! [measD]
  exact ⟨C, Sub.refl, hq⟩
theorem highest_ok {n : Nat} {t : T} {q : Int × Int} {C : CH} {Q : Kv} {E : Kx} (ho : okT t = true) (hm : meas 4 t = some q) (hq : Q (.int q.2) C) : W (n + 8) i_highest [t.d] C Q E := by
  rw [W_highest]
  unfold b_highest
  simp_arith! [GG_call]
  refine sizes_of_ok (n := n) ho hm ?_
  simp_arith! []
  exact ⟨C, Sub.refl, hq⟩
theorem tl_app (a b : Str) : (a ++ b).cps.toList = a.cps.toList ++ b.cps.toList := TL.tl_append a b
theorem app_mk (a b : List Nat) : mkS a ++ mkS b = mkS (a ++ b) := (mkS_tl _).symm.trans (congrArg mkS (by rw [tl_app, tl_mkS, tl_mkS]))
theorem join_mk (a : List Nat) (ys : List (List Nat)) : Txt.join (mkS a) (ys.map mkS) = mkS (TL.joinL a ys) := by
  rw [TL.join_eq]
  refine (mkS_tl _).symm.trans (congrArg mkS ?_)
  have := TL.tl_join (mkS a) (ys.map mkS)
  rw [List.map_map] at this
  have e : List.map (TL.tl ∘ mkS) ys = ys := by
    conv => rhs; rw [← List.map_id ys]
    exact List.map_congr_left fun x _ => tl_mkS x
  rw [e, show TL.tl (mkS a) = a from tl_mkS a] at this
  exact this
theorem read_value_ok {n : Nat} {z : Str} {C : CH} {Q : Kv} {E : Kx} (hz : z.length ≤ sizeLine) (so : PyData.strOk z = true) (hS : ∀ v, rdP 4 z.cps.toList = some (v, []) → Q v.t.d C)
    (hF : (∀ v, rdP 4 z.cps.toList ≠ some (v, [])) → E ⟨c_NoText, []⟩ C) : W (n + 7) i_read_value [.str z] C Q E := by
  have hl := len_cps z
  rw [W_read_value]
  unfold b_read_value
  rw [rdSs_cons]
  simp_arith [GG_kit, GG_call]
  refine read_at_ok 4 n 0 z C _ _ hz so (Nat.zero_le _) ?_
  rw [List.drop_zero]
  cases hr : rdP 4 z.cps.toList with
  | none =>
    rw [rdD, rdSs_cons]
    simp_arith []
    rw [rdSs_cons]
    simp_arith []
    exact ⟨C, Sub.refl, hF fun v e => by rw [hr] at e; cases e⟩
  | some vq =>
    obtain ⟨v, q⟩ := vq
    obtain ⟨e1, _⟩ := rdP_sound _ _ _ _ hr
    have l1 : z.length = (tx v).length + q.length := by rw [hl, e1, List.length_append]
    rw [rdD, rdSs_cons]
    simp_arith []
    refine ⟨hz, ?_⟩
    by_cases hq : q = []
    · subst hq
      have ee : ((z.length - ([] : List Nat).length : Nat) : Int) = ((z.length : Nat) : Int) := by simp
      rw [ee]
      simp_arith []
      rw [rdSs_cons]
      simp_arith []
      exact ⟨C, Sub.refl, hS v hr⟩
    · have ee : ¬ ((z.length - q.length : Nat) : Int) = ((z.length : Nat) : Int) := by
        have : 0 < q.length := List.length_pos_iff.mpr hq
        omega
      rw [if_pos (by simp [ee])]
      rw [rdSs_cons]
      simp_arith []
      exact ⟨C, Sub.refl, hF fun w e => by rw [hr] at e; cases e; exact hq rfl⟩
theorem joinL1 (s a : List Nat) : TL.joinL s [a] = a := rfl
theorem joinL2 (s a b : List Nat) : TL.joinL s [a, b] = a ++ (s ++ b) := rfl
theorem oJoin_mk {C : CH} {p : Addr} {s : List Nat} {ys : List (List Nat)} {Q : Kv} (h : C p = some (.lst (ys.map fun y => D.str (mkS y)))) (hl : (ys.map (·.length)).sum + ys.length * s.length ≤ 16777216) (q : Q (.str (mkS (TL.joinL s ys))) C) : oJoin (.str (mkS s)) [.ref p] C Q := by
  refine ⟨mkS s, .ref p, ys.map mkS, rfl, rfl, .inr (.inr ⟨p, rfl, ?_⟩), ?_, by rw [join_mk]; exact q⟩
  · rw [List.map_map]; exact h
  · rw [List.map_map, List.length_map, mkS_len]
    have e : List.map ((fun x => x.length) ∘ mkS) ys = ys.map (·.length) := List.map_congr_left fun x _ => mkS_len x
    rw [e]; exact hl
theorem app_r (z : Str) (l : List Nat) : z ++ mkS l = mkS (z.cps.toList ++ l) := (mkS_tl _).symm.trans (congrArg mkS (by rw [tl_app, tl_mkS]))
theorem big5 : 100000 ≤ sizeLine := by decide
theorem item_str {i : Int} (h1 : 1 ≤ i) (h3 : i ≤ 3) : i.natAbs.log2 < 1920 ∧ (Str.empty ++ Str.ofString "x").length ≤ sizeLine ∧ (Str.empty ++ Str.ofString "x" ++ Str.ofString (toString i)).length ≤ sizeLine ∧ Str.empty ++ Str.ofString "x" ++ Str.ofString (toString i) = mkS (tx (.item i)) := by
  have h : i = 1 ∨ i = 2 ∨ i = 3 := by omega
  rcases h with rfl | rfl | rfl
  · refine ⟨by decide +kernel, by decide +kernel, by decide +kernel, by decide +kernel⟩
  · refine ⟨by decide +kernel, by decide +kernel, by decide +kernel, by decide +kernel⟩
  · refine ⟨by decide +kernel, by decide +kernel, by decide +kernel, by decide +kernel⟩
theorem pow8 {r : Nat} (h : r ≤ 8) : 2 ^ (r + 1) ≤ 512 := Nat.le_trans (Nat.pow_le_pow_right (by decide) (show r + 1 ≤ 9 by omega)) (by decide)
theorem text_of_ok : ∀ (r n : Nat) (v : Vv) (C : CH) (Q : Kv) (E : Kx), Good r v → r ≤ 8 → Q (.str (mkS (tx v))) C → W (n + r + 2) i_text_of [v.t.d] C Q E
  | r, n, .item i, C, Q, E, g, hr, hq => by
    obtain ⟨h1, h3⟩ := good_item.mp g
    obtain ⟨a1, a2, a3, a4⟩ := item_str h1 h3
    rw [W_text_of]
    unfold b_text_of
    rw [rdSs_cons]
    simp_arith [GG_call]
    refine is_number_ok (t := .int i) ?_
    simp_arith [isNum]
    rw [rdSs_cons]
    simp_arith [cFst, cJs, cFmt, Vv.t, T.d]
    refine ⟨a2, a1, a3, C, Sub.refl, ?_⟩
    rw [← a4] at hq
    exact hq
  | r, n, .app1 z a, C, Q, E, g, hr, hq => by
    have big := big5
    have p8 := pow8 hr
    have ts := tx_short g
    obtain ⟨gz, k, rfl, ga⟩ := good_app1.mp g
    have z8 := gz.2.1
    have hlz := len_cps z
    rw [W_text_of]
    unfold b_text_of
    rw [rdSs_cons]
    simp_arith [GG_call]
    refine is_number_ok (t := (Vv.app1 z a).t) ?_
    simp_arith [isNum, Vv.t]
    rw [rdSs_cons]
    simp_arith [T.d, T.ds, GG_call, cLc, iSeq, lcL, wipe3, cutD_tail, cYes]
    rw [s_open, s_close, s_comma, app_r]
    have lt : (z.cps.toList ++ 40 :: (tx a ++ [41])).length ≤ 14 * 2 ^ (k + 1 + 1) := ts
    simp only [List.length_append, List.length_cons, List.length_nil] at lt
    refine ⟨by rw [mkS_len]; show z.length + 1 ≤ sizeLine; omega, ⟨_, rfl⟩, text_of_ok k n a C _ _ ga (by omega) ?_⟩
    intro p hp
    refine oJoin_mk (ys := [tx a]) cup_same (by simp; omega) ?_
    rw [joinL1]
    simp_arith [app_mk, mkS_len]
    refine ⟨by simp only [List.length_append, List.length_cons, List.length_nil]; omega, by simp only [List.length_append, List.length_cons, List.length_nil]; omega, C, sub_new hp, ?_⟩
    have e : tx (.app1 z a) = z.cps.toList ++ [40] ++ tx a ++ [41] := by simp [tx]
    rw [e] at hq
    exact hq
  | r, n, .app2 z a b, C, Q, E, g, hr, hq => by
    have big := big5
    have p8 := pow8 hr
    have ts := tx_short g
    obtain ⟨gz, k, rfl, ga, gb⟩ := good_app2.mp g
    have z8 := gz.2.1
    have hlz := len_cps z
    rw [W_text_of]
    unfold b_text_of
    rw [rdSs_cons]
    simp_arith [GG_call]
    refine is_number_ok (t := (Vv.app2 z a b).t) ?_
    simp_arith [isNum, Vv.t]
    rw [rdSs_cons]
    simp_arith [T.d, T.ds, GG_call, cLc, iSeq, lcL, wipe3, cutD_tail, cYes]
    rw [s_open, s_close, s_comma, app_r]
    have lt : (z.cps.toList ++ 40 :: (tx a ++ (44 :: 32 :: (tx b ++ [41])))).length ≤ 14 * 2 ^ (k + 1 + 1) := ts
    simp only [List.length_append, List.length_cons, List.length_nil] at lt
    refine ⟨by rw [mkS_len]; show z.length + 1 ≤ sizeLine; omega, ⟨_, rfl⟩, text_of_ok k n a C _ _ ga (by omega) ?_⟩
    refine text_of_ok k n b C _ _ gb (by omega) ?_
    refine ⟨by simp only [List.nil_append, List.length_append, List.length_cons, List.length_nil]; omega, ?_⟩
    intro p hp
    refine oJoin_mk (ys := [tx a, tx b]) cup_same (by simp; omega) ?_
    rw [joinL2]
    simp_arith [app_mk, mkS_len]
    refine ⟨by simp only [List.length_append, List.length_cons, List.length_nil]; omega, by simp only [List.length_append, List.length_cons, List.length_nil]; omega, C, sub_new hp, ?_⟩
    have e : tx (.app2 z a b) = z.cps.toList ++ [40] ++ (tx a ++ ([44, 32] ++ tx b)) ++ [41] := by simp [tx]
    rw [e] at hq
    exact hq
theorem value_text_ok {n : Nat} {v : Vv} {C : CH} {Q : Kv} {E : Kx} (g : Good 4 v) (hq : Q (.str (mkS (tx v))) C) : W (n + 10) i_value_text [v.t.d] C Q E := by
  have m : meas 4 v.t = some (v.h, v.top) := meas_vv 4 v g.1 g.2.2 g.2.1
  rw [W_value_text]
  unfold b_value_text
  rw [rdSs_cons]
  simp_arith [GG_call]
  rw [W_need_value]
  unfold b_need_value
  rw [rdSs_cons]
  simp_arith [GG_call]
  refine highest_ok (n := n) (ok_vv v g.1).1 m ?_
  have ht := g.2.1
  have : ¬ 3 < v.top := by omega
  simp_arith []
  rw [if_neg (by simpa using ht)]
  refine ⟨C, Sub.refl, ?_⟩
  rw [rdSs_cons]
  simp_arith [GG_call]
  exact text_of_ok 4 (n + 3) v C _ _ g (by decide) ⟨C, Sub.refl, hq⟩
theorem vv_of : ∀ (r : Nat) (u : U) (q : Int × Int), measU r u = some q → ∃ v : Vv, Good r v ∧ u.d = v.t.d ∧ v.h = q.1 ∧ v.top = q.2 := by
  intro r
  have item : ∀ (r : Nat) (i : Int) (q : Int × Int), measU r (.int i) = some q → ∃ v : Vv, Good r v ∧ (U.int i).d = v.t.d ∧ v.h = q.1 ∧ v.top = q.2 := fun r i q h => by
    have h' : (if 1 ≤ i ∧ i ≤ 3 then some ((0 : Int), i) else none) = some q := by cases r <;> simpa [measU] using h
    split at h'
    · rename_i c
      cases h'
      exact ⟨.item i, good_item.mpr c, rfl, rfl, rfl⟩
    · cases h'
  induction r with
  | zero =>
    intro u q h
    cases u with
    | int i => exact item 0 i q h
    | _ => simp [measU] at h
  | succ r ih =>
    intro u q h
    cases u with
    | int i => exact item _ i q h
    | tup us =>
      match us, h with
      | [h', a], h =>
        simp only [measU] at h
        split at h
        · rename_i hn
          cases h' with
          | str z =>
            obtain ⟨p, e1, e2⟩ := Option.map_eq_some_iff.mp h
            obtain ⟨v, g, e, eh, et⟩ := ih a p e1
            subst e2
            refine ⟨.app1 z v, good_app1.mpr ⟨isNm_good hn, r, rfl, g⟩, ?_, ?_, ?_⟩
            · simp only [U.d, U.ds, Vv.t, T.d, T.ds, e]
            · simp only [Vv.h, eh]
            · simp only [Vv.top, et]
          | _ => simp [isNameU] at hn
        · cases h
      | [h', a, b], h =>
        simp only [measU] at h
        split at h
        · rename_i hn
          cases h' with
          | str z =>
            cases ea : measU r a with
            | none => rw [ea] at h; simp [both2] at h
            | some p =>
              cases eb : measU r b with
              | none => rw [ea, eb] at h; simp [both2] at h
              | some k =>
                rw [ea, eb] at h
                obtain ⟨v, g, e, eh, et⟩ := ih a p ea
                obtain ⟨w, g', e', eh', et'⟩ := ih b k eb
                cases h
                refine ⟨.app2 z v w, good_app2.mpr ⟨isNm_good hn, r, rfl, g, g'⟩, ?_, ?_, ?_⟩
                · simp only [U.d, U.ds, Vv.t, T.d, T.ds, e, e']
                · simp only [Vv.h, eh, eh']
                · simp only [Vv.top, et, et']
          | _ => simp [isNameU] at hn
        · cases h
      | [], h => simp [measU] at h
      | [_], h => simp [measU] at h
      | _ :: _ :: _ :: _ :: _, h => simp [measU] at h
    | _ => simp [measU] at h
/-- NoValue -/
noncomputable abbrev nov : Exn := ⟨1, []⟩
theorem sizes_of_U {n : Nat} {u : U} {C : CH} {Q : Kv} {E : Kx} (ho : UOk C u) (hq : ∀ q, measU 4 u = some q → Q (.tup [.int q.1, .int q.2]) C) (he : measU 4 u = none → E nov C) : W (n + 7) i_sizes_of [u.d] C Q E := by
  rw [W_sizes_of]
  unfold b_sizes_of
  rw [rdSs_cons]
  simp_arith [GG_call]
  refine measured_U 4 n u C _ _ ho ?_
  rw [rdSs_cons]
  cases hm : measU 4 u with
  | none =>
    simp_arith [measD]
    rw [rdSs_cons]
    simp_arith []
    exact ⟨C, Sub.refl, he hm⟩
  | some q =>
    simp_arith [measD]
    rw [rdSs_cons]
    simp_arith []
    exact ⟨C, Sub.refl, hq q hm⟩
theorem height_U {n : Nat} {u : U} {C : CH} {Q : Kv} {E : Kx} (ho : UOk C u) (hq : ∀ q, measU 4 u = some q → Q (.int q.1) C) (he : measU 4 u = none → E nov C) : W (n + 8) i_height [u.d] C Q E := by
  rw [W_height]
  unfold b_height
  rw [rdSs_cons]
  simp_arith [GG_call]
  refine sizes_of_U ho (fun q hm => ?_) fun hm => ⟨C, Sub.refl, he hm⟩
  simp_arith []
  exact ⟨C, Sub.refl, hq q hm⟩
theorem highest_U {n : Nat} {u : U} {C : CH} {Q : Kv} {E : Kx} (ho : UOk C u) (hq : ∀ q, measU 4 u = some q → Q (.int q.2) C) (he : measU 4 u = none → E nov C) : W (n + 8) i_highest [u.d] C Q E := by
  rw [W_highest]
  unfold b_highest
  rw [rdSs_cons]
  simp_arith [GG_call]
  refine sizes_of_U ho (fun q hm => ?_) fun hm => ⟨C, Sub.refl, he hm⟩
  simp_arith []
  exact ⟨C, Sub.refl, hq q hm⟩
theorem need_value_U {n : Nat} {u : U} {l : Int} {C : CH} {Q : Kv} {E : Kx} (ho : UOk C u) (hq : ∀ q, measU 4 u = some q → q.2 ≤ l → Q .non C) (he : (∀ q, measU 4 u = some q → ¬ q.2 ≤ l) → E nov C) : W (n + 9) i_need_value [u.d, .int l] C Q E := by
  rw [W_need_value]
  unfold b_need_value
  rw [rdSs_cons]
  simp_arith [GG_call]
  refine highest_U ho (fun q hm => ?_) fun hm => ⟨C, Sub.refl, he fun q h => by rw [hm] at h; cases h⟩
  simp_arith []
  by_cases h : q.2 ≤ l
  · have h' : ¬ l < q.2 := by omega
    rw [if_neg (by simpa using h)]
    exact ⟨C, Sub.refl, hq q hm h⟩
  · have h' : l < q.2 := by omega
    rw [if_pos (decide_eq_true h'), rdSs_cons]
    simp_arith []
    exact ⟨C, Sub.refl, he fun q' hm' => by rw [hm] at hm'; cases hm'; exact h⟩
theorem value_text_U {n : Nat} {u : U} {C : CH} {Q : Kv} {E : Kx} (ho : UOk C u) (hq : measU 4 u ≠ none → ∀ v, Good 4 v → u.d = v.t.d → Q (.str (mkS (tx v))) C) (he : measU 4 u = none → E nov C) : W (n + 10) i_value_text [u.d] C Q E := by
  cases hm : measU 4 u with
  | some q =>
    obtain ⟨v, g, e, _, _⟩ := vv_of 4 u q hm
    rw [e]
    exact value_text_ok g (hq (by rw [hm]; exact fun z => nomatch z) v g e)
  | none =>
    rw [W_value_text]
    unfold b_value_text
    rw [rdSs_cons]
    simp_arith [GG_call]
    refine need_value_U ho (fun q h => by rw [hm] at h; cases h) fun _ => ⟨C, Sub.refl, he hm⟩
theorem told_lam {n : Nat} {ce : Kxs → CTE} {ex : Kxs} {σ : Env3} {C : CH} {Q : Kv} (h : ∀ EX : Kxs, (∀ σ' C', Q (.str (Str.ofString "refused")) C' → EX nov σ' C') → ∀ Q1 : Kv, (∀ d C1, Q d C1 → Q1 d C1) → ce EX σ C Q1) :
    cLam ((GG (n + 3)).lam i__law_told) ce ex σ C Q := by
  intro fa hfa
  rw [L__law_told]
  unfold b__law_told
  rw [rdSs_cons]
  simp_arith []
  rw [rdSs_cons]
  simp_arith [sLF, cAct, GA_act, lamAct]
  refine h _ (fun σ' C' q => ?_) _ fun d C1 q => ?_
  · rw [if_pos (by decide)]
    refine ⟨rfl, fun a ha => ?_⟩
    rw [rdSs_cons]
    simp_arith []
    unfold sCaughtL
    rw [if_pos (by decide)]
    simp_arith [rdIS, rdI, rdIT, cIsx]
    simp_arith [sSeq, cIsx]
    refine ⟨true, rfl, ?_⟩
    rw [if_pos rfl]
    refine ⟨false, rfl, ?_⟩
    rw [if_pos (by decide)]
    exact ⟨C', Sub.refl, q⟩
  · rw [rdSs_cons]
    simp_arith []
    rw [rdSs_cons]
    simp_arith []
    exact ⟨C1, Sub.refl, q⟩
/-- what a lambda's reading of the call of a def says: the arguments are in the slots -/
theorem told_call {n f np k m : Nat} {g : List Src} {es ks : List CE} {ex : Kxs} {σ : Env3} {C : CH} {Q : Kv} (h : ∀ (EX : Kxs), (∀ σ' C', Q (.str (Str.ofString "refused")) C' → EX nov σ' C') → ∀ Q1 : Kv, (∀ d C1, Q d C1 → Q1 d C1) → rdE (GA (n + 1) act0) EX (.call f np k m g es ks) σ C Q1) :
    rdE (GG (n + 3)) ex (.lam i__law_told (.call f np k m g es ks)) σ C Q := told_lam (n := n) (ce := fun ex' => rdE (GG (n + 3)).dn ex' (.call f np k m g es ks)) fun EX h1 Q1 h2 => h EX h1 Q1 h2
/-- a list of data against the empty list -/
theorem deep_ts : ∀ ts : List T, (∀ t ∈ ts, okT t = true ∧ t.p.depth ≤ 300) → PyData.canLayAll0 (T.pl ts) = true ∧ PyData.depthAll (T.pl ts) ≤ 300
  | [], _ => ⟨rfl, Nat.zero_le _⟩
  | t :: ts, h => by
    obtain ⟨h1, h2⟩ := deep_ts ts fun x hx => h x (List.mem_cons_of_mem _ hx)
    obtain ⟨k1, k2⟩ := h t List.mem_cons_self
    constructor
    · simp only [T.pl, PyData.canLayAll0, Bool.and_eq_true]
      exact ⟨canLay_ok t k1, h1⟩
    · simp only [T.pl, PyData.depthAll]; omega
theorem ts_nil {f : Bool → Bool} {C : CH} {p r : Addr} {ts : List T} {Q : Kv} (ok : ∀ t ∈ ts, okT t = true ∧ t.p.depth ≤ 300) (h : C p = some (.lst (T.ds ts))) (h2 : C r = some (.lst [])) (q : Q (.bl (f ts.isEmpty)) C) : oEqN f (.ref p) (.ref r) C Q := by
  obtain ⟨d1, d2⟩ := deep_ts ts ok
  refine ⟨.list (T.pl ts), .list [], .lst h (T.snaps C ts), .lst h2 .nil, ?_, by decide, ?_⟩
  · have e : (PyData.list (T.pl ts)).depth ≤ 350 := by
      show PyData.depthAll _ + 1 ≤ 350
      omega
    unfold deepOk
    rw [decide_eq_true e, Bool.and_true]
    exact d1
  · cases ts with
    | nil => exact q
    | cons j js => exact q
theorem sig_split : Str.ofString "abcdefghijklmnopqrstuvwxyz" ++ Str.ofString "0123456789" = SIG := by decide +kernel
theorem one_ok {c : Nat} (h : c < 1114112) : okT (.str ⟨#[c]⟩) = true := by
  simp only [okT, Bool.and_eq_true, decide_eq_true_eq]
  refine ⟨by show 1 ≤ sizeLine; decide, ?_⟩
  show (#[c] : Array Nat).all (· < 0x110000) = true
  simp [h]
theorem so_lt {z : Str} (hz : PyData.strOk z = true) : ∀ c ∈ z.cps.toList, c < 1114112 := by
  have : z.cps.all (· < 0x110000) = true := hz
  rw [← Array.all_toList, List.all_eq_true] at this
  intro c hc
  exact of_decide_eq_true (this c hc)
theorem law_is_name_ok {n : Nat} {z : Str} {C : CH} {Q : Kv} {E : Kx} (hz : z.length ≤ sizeLine) (so : PyData.strOk z = true) (hq : Q (.bl (isNm z)) C) : W (n + 1) i__law_is_name [.str z] C Q E := by
  have hl := len_cps z
  rw [W__law_is_name]
  unfold b__law_is_name
  rw [rdSs_cons]
  simp_arith []
  rw [rdSs_cons]
  simp_arith [GG_kit]
  refine ⟨hz, ?_⟩
  unfold isNm at hq
  cases e : z.cps.toList with
  | nil =>
    rw [e] at hq hl
    have : ¬ (1 : Int) ≤ (z.length : Nat) := by rw [hl]; simp
    rw [if_neg (by simpa using this)]
    rw [rdSs_cons]
    simp_arith []
    exact ⟨C, Sub.refl, hq⟩
  | cons c r =>
    rw [e] at hq hl
    have h1 : (1 : Int) ≤ (z.length : Nat) := by rw [hl]; simp only [List.length_cons]; omega
    rw [if_pos (decide_eq_true h1)]
    simp_arith []
    by_cases h8 : z.length ≤ 8
    · have h8' : ((z.length : Nat) : Int) ≤ 8 := by omega
      rw [if_neg (by simp [h8'])]
      refine ⟨hz, c, rfl, ?_⟩
      have so' := so_lt so
      by_cases hc : c ∈ LET.cps.toList
      · have hc' : c ∈ (Str.ofString "abcdefghijklmnopqrstuvwxyz").cps.toList := hc
        rw [if_neg (by simp [hc'])]
        rw [rdSs_cons]
        simp_arith [cLc, iTxt, oLst]
        refine lcL_if (fun x => D.str ⟨#[x]⟩) (fun x => D.str ⟨#[x]⟩) (fun x => !sgn x) trivial _ (fun x hx => ⟨_, rfl, fun Q' hQ => ?_, fun Q' hQ => ?_⟩) (by rw [← len_cps]; exact hz) ?_
        · simp_arith [wipe3]
          refine ⟨by decide, ?_⟩
          rw [sig_split]
          exact ⟨x, rfl, hQ⟩
        · simp_arith [wipe3]
          exact hQ
        · intro p hp q hq2
          refine ts_nil (ts := (z.cps.toList.filter fun x => !sgn x).map fun x => T.str ⟨#[x]⟩) (fun t ht => ?_) ?_ cup_same ?_
          · obtain ⟨x, hx, rfl⟩ := List.mem_map.mp ht
            exact ⟨one_ok (so' x (List.mem_filter.mp hx).1), Nat.zero_le _⟩
          · rw [cup_old hq2 cup_same, T.ds_map, List.map_map]
            rfl
          · refine ⟨C, (sub_new hp).trans (sub_new hq2), ?_⟩
            simp only [h8, hc, decide_true, Bool.true_and] at hq
            rw [e]
            have e2 : (List.map (fun x => T.str ⟨#[x]⟩) ((c :: r).filter fun x => !sgn x)).isEmpty = (c :: r).all fun c => decide (c ∈ SIG.cps.toList) := by
              rw [List.isEmpty_map]
              generalize c :: r = l
              induction l with
              | nil => rfl
              | cons a l ih =>
                rw [List.filter_cons, List.all_cons]
                by_cases ha : sgn a = true
                · rw [if_neg (by simp [ha]), ih]
                  have : decide (a ∈ SIG.cps.toList) = true := ha
                  rw [this]; rfl
                · rw [if_pos (by simp [ha])]
                  have : decide (a ∈ SIG.cps.toList) = false := by simpa using ha
                  rw [this]; rfl
            rw [e2]
            exact hq
      · have hc' : ¬ c ∈ (Str.ofString "abcdefghijklmnopqrstuvwxyz").cps.toList := hc
        rw [if_pos (by simp [hc'])]
        rw [rdSs_cons]
        simp_arith []
        refine ⟨C, Sub.refl, ?_⟩
        simpa [hc] using hq
    · have h8' : ¬ ((z.length : Nat) : Int) ≤ 8 := by omega
      rw [if_pos (by simp [h8'])]
      rw [rdSs_cons]
      simp_arith []
      refine ⟨C, Sub.refl, ?_⟩
      simpa [h8] using hq
theorem oInF_int2 {f : Bool → Bool} {w a b : Int} {C : CH} {Q : Kv} : oInF f (.int w) (.tup [.int a, .int b]) C Q ↔ Q (.bl (f (decide (w = a) || decide (w = b)))) C := by
  have e : L2.inV (toV (.int w)) ([D.int a, D.int b].map toV) = (decide (w = a) || decide (w = b)) := by
    show ((L2.eqV (.int a) (.int w)) || ((L2.eqV (.int b) (.int w)) || false)) = _
    rw [Bool.or_false]
    have q : ∀ x : Int, L2.eqV (.int x) (.int w) = decide (w = x) := fun x => by
      by_cases h : w = x
      · subst h; simp [L2.eqV]
      · have h' : ¬ x = w := fun z => h z.symm
        simp [L2.eqV, h, h']
    rw [q, q]
  constructor
  · rintro ⟨ds, h1, _, _, h⟩
    rw [SqC_tup] at h1
    subst h1
    rw [e] at h
    exact h
  · intro h
    exact ⟨_, SqC_tup.mpr rfl, rfl, rfl, by rw [e]; exact h⟩
theorem law_is_name_U {n : Nat} {u : U} {C : CH} {Q : Kv} {E : Kx} (ho : UOk C u) (hq : Q (.bl (isNameU u)) C) : W (n + 1) i__law_is_name [u.d] C Q E := by
  have ht := ho.tyC
  cases u with
  | str z =>
    cases ho with
    | str _ h1 h2 => exact law_is_name_ok h1 h2 hq
  | _ =>
    rw [W__law_is_name]
    unfold b__law_is_name
    rw [rdSs_cons]
    simp_arith []
    rw [rdSs_cons]
    simp_arith [GG_kit, ht, U.ty]
    rw [rdSs_cons]
    simp_arith []
    exact ⟨C, Sub.refl, hq⟩
/-- not deeper than k -/
noncomputable def Dp : Nat → U → Prop
  | 0, .tup _ => False
  | k + 1, .tup us => ∀ u ∈ us, Dp k u
  | _, _ => True
theorem law_sizes_U : ∀ (r n : Nat) (t : U) (C : CH) (Q : Kv) (E : Kx), UOk C t → Dp r t → Q (measD (measU r t)) C → W (n + r + 2) i__law_sizes [t.d] C Q E := by
  intro r
  induction r with
  | zero =>
    intro n t C Q E ho hd hq
    have ht := ho.tyC
    rw [W__law_sizes]
    unfold b__law_sizes
    rw [rdSs_cons]
    cases t with
    | tup _ => exact hd.elim
    | int i =>
      simp_arith [GG_kit, ht, U.ty]
      rw [rdSs_cons]
      simp_arith [U.d, GG_kit]
      by_cases h1 : 1 ≤ i <;> by_cases h3 : i ≤ 3 <;> simp only [h1, h3, decide_true, decide_false, if_true, Bool.false_eq_true, if_false, Bool.not_true, Bool.not_false] <;> simp only [measU, h1, h3, measD, and_self, and_true, and_false, if_true, if_false] at hq
      · exact ⟨C, Sub.refl, hq⟩
      all_goals exact ⟨C, Sub.refl, hq⟩
    | bl b =>
      simp_arith [GG_kit, ht, U.ty]
      rw [rdSs_cons]
      simp_arith [U.d, GG_kit]
      exact ⟨C, Sub.refl, hq⟩
    | _ =>
      simp_arith [GG_kit, ht, U.ty]
      rw [rdSs_cons]
      simp_arith [GG_kit, ht, U.ty]
      rw [rdSs_cons]
      simp_arith []
      exact ⟨C, Sub.refl, hq⟩
  | succ r ih =>
    intro n t C Q E ho hd hq
    have ht := ho.tyC
    rw [W__law_sizes]
    unfold b__law_sizes
    rw [rdSs_cons]
    cases t with
    | int i =>
      simp_arith [GG_kit, ht, U.ty]
      rw [rdSs_cons]
      simp_arith [U.d, GG_kit]
      by_cases h1 : 1 ≤ i <;> by_cases h3 : i ≤ 3 <;> simp only [h1, h3, decide_true, decide_false, if_true, Bool.false_eq_true, if_false, Bool.not_true, Bool.not_false] <;> simp only [measU, h1, h3, measD, and_self, and_true, and_false, if_true, if_false] at hq
      · exact ⟨C, Sub.refl, hq⟩
      all_goals exact ⟨C, Sub.refl, hq⟩
    | bl b =>
      simp_arith [GG_kit, ht, U.ty]
      rw [rdSs_cons]
      simp_arith [U.d, GG_kit]
      exact ⟨C, Sub.refl, hq⟩
    | tup xs =>
      have hm : ∀ x ∈ xs, UOk C x := by cases ho with | tup _ _ h => exact h
      have hdd : ∀ x ∈ xs, Dp r x := hd
      simp_arith [GG_kit, ht, U.ty]
      rw [rdSs_cons]
      simp_arith [U.d, GG_kit, GG_call, U.ds_length]
      rw [oInF_int2]
      match xs, hm, hdd, hq with
      | [], hm, hdd, hq =>
        refine ⟨true, rfl, ?_⟩
        rw [if_pos rfl, rdSs_cons]
        simp_arith []
        exact ⟨C, Sub.refl, hq⟩
      | [_], hm, hdd, hq =>
        refine ⟨true, rfl, ?_⟩
        rw [if_pos rfl, rdSs_cons]
        simp_arith []
        exact ⟨C, Sub.refl, hq⟩
      | _ :: _ :: _ :: _ :: l, hm, hdd, hq =>
        refine ⟨true, ?_, ?_⟩
        · have e1 : ¬ (((l.length + 1 + 1 + 1 + 1 : Nat) : Int) = 2) := by omega
          have e2 : ¬ (((l.length + 1 + 1 + 1 + 1 : Nat) : Int) = 3) := by omega
          simp only [List.length_cons, decide_eq_false e1, decide_eq_false e2]
          rfl
        rw [if_pos rfl, rdSs_cons]
        simp_arith []
        exact ⟨C, Sub.refl, hq⟩
      | [h, a], hm, hdd, hq =>
        refine ⟨false, rfl, ?_⟩
        rw [if_neg (by decide)]
        simp_arith [U.ds]
        refine law_is_name_U (hm h (by simp)) ?_
        simp only [measU] at hq
        by_cases hn : isNameU h = true
        · rw [if_pos hn] at hq
          simp_arith [hn]
          rw [rdSs_cons]
          simp_arith [cLc, iSeq, lcL, wipe3, cutD_tail, cYes, GG_call]
          refine ih n a C _ _ (hm a (by simp)) (hdd a (by simp)) ?_
          intro p hp
          rw [rdSs_cons]
          simp_arith []
          refine noneIn1 cup_same ?_
          cases hm : measU r a with
          | none =>
            rw [hm] at hq
            simp_arith [Option.isNone]
            rw [rdSs_cons]
            simp_arith []
            exact ⟨C, sub_new hp, hq⟩
          | some q =>
            rw [hm] at hq
            simp_arith [Option.isNone]
            rw [rdSs_cons]
            simp_arith [cLc, iSeq, lcL, wipe3, cYes, List.nil_append, measD]
            intro p1 hp1
            refine oMaxL1 cup_same ?_
            simp_arith [cup_old hp1 cup_same, cLc, iSeq, lcL, wipe3, cYes, List.nil_append]
            intro p2 hp2
            refine oMaxL1 cup_same ?_
            exact ⟨C, ((sub_new hp).trans (sub_new hp1)).trans (sub_new hp2), hq⟩
        · rw [if_neg hn] at hq
          simp_arith [hn]
          rw [rdSs_cons]
          simp_arith []
          exact ⟨C, Sub.refl, hq⟩
      | [h, a, b], hm, hdd, hq =>
        refine ⟨false, rfl, ?_⟩
        rw [if_neg (by decide)]
        simp_arith [U.ds]
        refine law_is_name_U (hm h (by simp)) ?_
        simp only [measU] at hq
        by_cases hn : isNameU h = true
        · rw [if_pos hn] at hq
          simp_arith [hn]
          rw [rdSs_cons]
          simp_arith [cLc, iSeq, lcL, wipe3, cutD_tail, cYes, GG_call, List.nil_append, List.cons_append]
          refine ih n a C _ _ (hm a (by simp)) (hdd a (by simp)) ?_
          refine ih n b C _ _ (hm b (by simp)) (hdd b (by simp)) ?_
          intro p hp
          rw [rdSs_cons]
          simp_arith []
          refine noneIn2 cup_same ?_
          cases hm : measU r a with
          | none =>
            rw [hm] at hq
            simp_arith [Option.isNone, Bool.true_or]
            rw [rdSs_cons]
            simp_arith []
            exact ⟨C, sub_new hp, hq⟩
          | some q =>
            cases hk : measU r b with
            | none =>
              rw [hm, hk] at hq
              simp_arith [Option.isNone, Bool.or_true]
              rw [rdSs_cons]
              simp_arith []
              exact ⟨C, sub_new hp, hq⟩
            | some k =>
              rw [hm, hk] at hq
              simp_arith [Option.isNone, Bool.or_self]
              rw [rdSs_cons]
              simp_arith [cLc, iSeq, lcL, wipe3, cYes, List.nil_append, List.cons_append, measD]
              intro p1 hp1
              refine oMaxL2 cup_same ?_
              simp_arith [cup_old hp1 cup_same, cLc, iSeq, lcL, wipe3, cYes, List.nil_append, List.cons_append]
              intro p2 hp2
              refine oMaxL2 cup_same ?_
              exact ⟨C, ((sub_new hp).trans (sub_new hp1)).trans (sub_new hp2), hq⟩
        · rw [if_neg hn] at hq
          simp_arith [hn]
          rw [rdSs_cons]
          simp_arith []
          exact ⟨C, Sub.refl, hq⟩
    | _ =>
      simp_arith [GG_kit, ht, U.ty]
      rw [rdSs_cons]
      simp_arith [GG_kit, ht, U.ty]
      rw [rdSs_cons]
      simp_arith []
      exact ⟨C, Sub.refl, hq⟩
/-- more room changes nothing; a height in the room is found in it -/
theorem measU_up : ∀ (r : Nat) (u : U) (q : Int × Int), measU r u = some q → ∀ k, r ≤ k → measU k u = some q := by
  intro r
  induction r with
  | zero =>
    intro u q h k hk
    cases u with
    | int i => cases k <;> simpa [measU] using h
    | _ => simp [measU] at h
  | succ r ih =>
    intro u q h k hk
    obtain ⟨k, rfl⟩ : ∃ m, k = m + 1 := ⟨k - 1, by omega⟩
    cases u with
    | int i => simpa [measU] using h
    | tup us =>
      match us, h with
      | [h', a], h =>
        simp only [measU] at h ⊢
        split at h
        · rename_i hn
          rw [if_pos hn]
          obtain ⟨p, e1, e2⟩ := Option.map_eq_some_iff.mp h
          rw [ih a p e1 k (by omega)]
          exact congrArg some e2
        · cases h
      | [h', a, b], h =>
        simp only [measU] at h ⊢
        split at h
        · rename_i hn
          rw [if_pos hn]
          cases ea : measU r a with
          | none => rw [ea] at h; simp [both2] at h
          | some p =>
            cases eb : measU r b with
            | none => rw [ea, eb] at h; simp [both2] at h
            | some p' =>
              rw [ih a p ea k (by omega), ih b p' eb k (by omega)]
              rw [ea, eb] at h
              exact h
        · cases h
      | [], h => simp [measU] at h
      | [_], h => simp [measU] at h
      | _ :: _ :: _ :: _ :: _, h => simp [measU] at h
    | _ => simp [measU] at h
theorem measU_nn : ∀ (r : Nat) (u : U) (q : Int × Int), measU r u = some q → 0 ≤ q.1 := fun r u q h => by
  obtain ⟨v, g, e, eh, et⟩ := vv_of r u q h
  rw [← eh]
  exact v.h_nonneg
theorem measU_down : ∀ (k : Nat) (u : U) (q : Int × Int), measU k u = some q → ∀ r : Nat, q.1 ≤ r → measU r u = some q := by
  intro k
  induction k with
  | zero =>
    intro u q h r hr
    exact measU_up 0 u q h r (Nat.zero_le _)
  | succ k ih =>
    intro u q h r hr
    cases u with
    | int i => cases r <;> simpa [measU] using h
    | tup us =>
      match us, h with
      | [h', a], h =>
        simp only [measU] at h
        split at h
        · rename_i hn
          obtain ⟨p, e1, e2⟩ := Option.map_eq_some_iff.mp h
          subst e2
          have := measU_nn _ _ _ e1
          simp only at hr
          cases r with
          | zero => omega
          | succ r => simp only [measU, if_pos hn, ih a p e1 r (by omega), Option.map_some]
        · cases h
      | [h', a, b], h =>
        simp only [measU] at h
        split at h
        · rename_i hn
          cases ea : measU k a with
          | none => rw [ea] at h; simp [both2] at h
          | some p =>
            cases eb : measU k b with
            | none => rw [ea, eb] at h; simp [both2] at h
            | some p' =>
              have n1 := measU_nn _ _ _ ea
              have n2 := measU_nn _ _ _ eb
              rw [ea, eb] at h
              have h' := h
              simp only [both2, Option.some.injEq] at h
              subst h
              simp only at hr
              cases r with
              | zero => split at hr <;> omega
              | succ r =>
                simp only [measU, if_pos hn]
                rw [ih a p ea r (by split at hr <;> omega), ih b p' eb r (by split at hr <;> omega)]
                exact h'
        · cases h
      | [], h => simp [measU] at h
      | [_], h => simp [measU] at h
      | _ :: _ :: _ :: _ :: _, h => simp [measU] at h
    | _ => simp [measU] at h
noncomputable def stK (l c : Addr) (r t : Int) : List (L2.Key × D) := [(.inr "great", .ref l), (.inr "cells", .ref c), (.inr "left", .int r), (.inr "turn", .int t)]
/-- the law's state stands at s, N draws are left; the rest of the heap is C0 -/
structure StAt (C0 C : CH) (s l c : Addr) (ls cs : List Int) (r t : Int) : Prop where
  at_ : C s = some (.dic (stK l c r t))
  large : C l = some (.lst (ls.map D.int))
  cells : C c = some (.lst (cs.map D.int))
  sub : Sub C0 C
  s0 : C0 s = none
  l0 : C0 l = none
  c0 : C0 c = none
  lc : l ≠ c
noncomputable def St (C0 C : CH) (s : Addr) (N : Nat) : Prop := ∃ l c ls cs r t, StAt C0 C s l c ls cs r t ∧ 0 ≤ t ∧ t + N ≤ 2 ^ 40 ∧ (ls.length : Int) ≤ 1000 ∧ (cs.length : Int) ≤ 1000
theorem StAt.sl {C0 C : CH} {s l c : Addr} {ls cs : List Int} {r t : Int} (h : StAt C0 C s l c ls cs r t) : s ≠ l ∧ s ≠ c := by
  refine ⟨fun e => ?_, fun e => ?_⟩
  · have a := h.at_; rw [e, h.large] at a; cases a
  · have a := h.at_; rw [e, h.cells] at a; cases a
theorem StAt.put {C0 C : CH} {s l c : Addr} {ls cs : List Int} {r t r' t' : Int} (h : StAt C0 C s l c ls cs r t) : StAt C0 (cup C s (.dic (stK l c r' t'))) s l c ls cs r' t' := by
  obtain ⟨a, b⟩ := h.sl
  exact ⟨cup_same, by rw [cup_ne (Ne.symm a)]; exact h.large, by rw [cup_ne (Ne.symm b)]; exact h.cells, sub_at h.s0 h.sub, h.s0, h.l0, h.c0, h.lc⟩
theorem StAt.putL {C0 C : CH} {s l c : Addr} {ls ls' cs : List Int} {r t : Int} (h : StAt C0 C s l c ls cs r t) : StAt C0 (cup C l (.lst (ls'.map D.int))) s l c ls' cs r t := by
  obtain ⟨a, b⟩ := h.sl
  exact ⟨by rw [cup_ne a]; exact h.at_, cup_same, by rw [cup_ne (Ne.symm h.lc)]; exact h.cells, sub_at h.l0 h.sub, h.s0, h.l0, h.c0, h.lc⟩
theorem StAt.new {C0 C : CH} {s l c p : Addr} {o : CO} {ls cs : List Int} {r t : Int} (h : StAt C0 C s l c ls cs r t) (hp : C p = none) : StAt C0 (cup C p o) s l c ls cs r t :=
  ⟨cup_old hp h.at_, cup_old hp h.large, cup_old hp h.cells, h.sub.trans (sub_new hp), h.s0, h.l0, h.c0, h.lc⟩
theorem st_large {l c : Addr} {r t : Int} : valC (stK l c r t) (.inr "great") = some (.ref l) := rfl
theorem st_cells {l c : Addr} {r t : Int} : valC (stK l c r t) (.inr "cells") = some (.ref c) := rfl
theorem st_rest {l c : Addr} {r t : Int} : valC (stK l c r t) (.inr "left") = some (.int r) := rfl
theorem st_turn {l c : Addr} {r t : Int} : valC (stK l c r t) (.inr "turn") = some (.int t) := rfl
theorem st_putR {l c : Addr} {r t r' : Int} : putC (stK l c r t) (.inr "left") (.int r') = stK l c r' t := rfl
theorem st_putT {l c : Addr} {r t t' : Int} : putC (stK l c r t) (.inr "turn") (.int t') = stK l c r t' := rfl
/-- state[..] -/
theorem ix_rest {C0 C : CH} {s l c : Addr} {ls cs : List Int} {r t : Int} {Q : Kv} (h : StAt C0 C s l c ls cs r t) : oIxA (.ref s) (.str "left") C Q ↔ Q (.int r) C := by
  unfold oIxA
  simp only [h.at_]
  constructor
  · rintro ⟨k, d, hk, e, q⟩
    cases hk
    rw [st_rest] at e
    cases e
    exact q
  · intro q
    exact ⟨_, _, rfl, st_rest, q⟩
theorem ix_turn {C0 C : CH} {s l c : Addr} {ls cs : List Int} {r t : Int} {Q : Kv} (h : StAt C0 C s l c ls cs r t) : oIxA (.ref s) (.str "turn") C Q ↔ Q (.int t) C := by
  unfold oIxA
  simp only [h.at_]
  constructor
  · rintro ⟨k, d, hk, e, q⟩
    cases hk
    rw [st_turn] at e
    cases e
    exact q
  · intro q
    exact ⟨_, _, rfl, st_turn, q⟩
theorem ix_large {C0 C : CH} {s l c : Addr} {ls cs : List Int} {r t : Int} {Q : Kv} (h : StAt C0 C s l c ls cs r t) : oIxA (.ref s) (.str "great") C Q ↔ Q (.ref l) C := by
  unfold oIxA
  simp only [h.at_]
  constructor
  · rintro ⟨k, d, hk, e, q⟩
    cases hk
    rw [st_large] at e
    cases e
    exact q
  · intro q
    exact ⟨_, _, rfl, st_large, q⟩
theorem ix_cells {C0 C : CH} {s l c : Addr} {ls cs : List Int} {r t : Int} {Q : Kv} (h : StAt C0 C s l c ls cs r t) : oIxA (.ref s) (.str "cells") C Q ↔ Q (.ref c) C := by
  unfold oIxA
  simp only [h.at_]
  constructor
  · rintro ⟨k, d, hk, e, q⟩
    cases hk
    rw [st_cells] at e
    cases e
    exact q
  · intro q
    exact ⟨_, _, rfl, st_cells, q⟩
theorem snap_ints (C : CH) : ∀ ns : List Int, SnapL C (ns.map D.int) (ns.map PyData.int)
  | [] => .nil
  | n :: ns => .cons (.int n) (snap_ints C ns)
theorem deep_ints : ∀ ns : List Int, PyData.canLayAll0 (ns.map PyData.int) = true ∧ PyData.depthAll (ns.map PyData.int) = 0
  | [] => ⟨rfl, rfl⟩
  | n :: ns => by
    obtain ⟨h1, h2⟩ := deep_ints ns
    exact ⟨h1, by show max 0 _ = 0; rw [h2]; rfl⟩
/-- a list of ints against the empty list -/
theorem ints_ne {C : CH} {p r : Addr} {ns : List Int} {Q : Kv} (h : C p = some (.lst (ns.map D.int))) (h2 : C r = some (.lst [])) (q : Q (.bl (!ns.isEmpty)) C) : oEqN not (.ref p) (.ref r) C Q := by
  obtain ⟨d1, d2⟩ := deep_ints ns
  refine ⟨.list (ns.map PyData.int), .list [], .lst h (snap_ints C ns), .lst h2 .nil, ?_, by decide, ?_⟩
  · have e : (PyData.list (ns.map PyData.int)).depth ≤ 350 := by
      show PyData.depthAll _ + 1 ≤ 350
      omega
    unfold deepOk
    rw [decide_eq_true e, Bool.and_true]
    exact d1
  · cases ns with
    | nil => exact q
    | cons j js => exact q
theorem set_rest {C : CH} {s l c : Addr} {r t z : Int} {Q : CH → Prop} (h : C s = some (.dic (stK l c r t))) (q : Q (cup C s (.dic (stK l c z t)))) : oSetL (.ref s) (.str "left") (.int z) C Q ∨ oSetD (.ref s) (.str "left") (.int z) C Q :=
  .inr ⟨s, _, _, rfl, h, rfl, by show 4 < sizeLine; decide, by rw [st_putR]; exact q⟩
theorem set_turn {C : CH} {s l c : Addr} {r t z : Int} {Q : CH → Prop} (h : C s = some (.dic (stK l c r t))) (q : Q (cup C s (.dic (stK l c r z)))) : oSetL (.ref s) (.str "turn") (.int z) C Q ∨ oSetD (.ref s) (.str "turn") (.int z) C Q :=
  .inr ⟨s, _, _, rfl, h, rfl, by show 4 < sizeLine; decide, by rw [st_putT]; exact q⟩
theorem St.less {C0 C : CH} {s : Addr} {N k : Nat} (h : St C0 C s (N + k)) : St C0 C s N := by
  obtain ⟨l, c, ls, cs, r, t, h1, h2, h3, h4, h5⟩ := h
  exact ⟨l, c, ls, cs, r, t, h1, h2, by omega, h4, h5⟩
noncomputable def mixB : List CS := match b__law_mixed with
  | _ :: _ :: _ :: .forS _ _ _ b :: _ => b
  | _ => []
noncomputable def cellB : List CS := match mixB with
  | _ :: .forS _ _ _ b :: _ => b
  | _ => []
theorem cells_loop {G : G3} {ex : Kxs} {c : Addr} {D : EndsC} {p : Int} {y0 y1 y2 : Option L3.D} (hp : 0 < p) (hp2 : p < 2147483648) (C : CH)
    (hK : ∀ (z : Int) (y5 : Option L3.D), z.natAbs < 2 ^ 63 → D.nx [y0, y1, y2, some (.int p), some (.int z), y5] C) {zs : List L3.D} (hc : LsC C c zs) : ∀ (cs : List Int) (z : Int) (y5 : Option L3.D), z.natAbs < 2 ^ 63 →
      forL (hT (.nm 5)) (rdSs G ex cellB) (fun C => LsC C c zs) D (cs.map L3.D.int) [y0, y1, y2, some (.int p), some (.int z), y5] C
  | [], z, y5, hz => ⟨hc, hK z y5 hz⟩
  | k :: cs, z, y5, hz => by
    refine ⟨hc, _, rfl, ?_⟩
    simp only [cellB, mixB, b__law_mixed]
    rw [rdSs_cons]
    simp_arith []
    have a1 := Int.fmod_nonneg_of_pos (z * 48271 + k) hp
    have a2 := Int.fmod_lt_of_pos (z * 48271 + k) hp
    exact ⟨.inr ⟨by decide, by decide⟩, by omega, cells_loop hp hp2 C hK hc cs _ _ (by omega)⟩
/-- one round of the blend -/
theorem mix_loop {G : G3} {ex : Kxs} {C0 C : CH} {s l c q : Addr} {ls cs : List Int} {r t : Int} {D : EndsC} {qs : List L3.D} (h : StAt C0 C s l c ls cs r t) (hq : LsC C q qs) (ht : 0 ≤ t) (ht2 : t ≤ 2 ^ 40)
    (hK : ∀ (z : Int) (y3 y4 y5 : Option L3.D), D.nx [some (.ref s), some (.int t), some (.int z), y3, y4, y5] C) : ∀ (ps : List Int) (z : Int) (y3 y4 y5 : Option L3.D), (∀ p ∈ ps, 0 < p ∧ p < 2147483648) →
      forL (hT (.nm 3)) (rdSs G ex mixB) (fun C => LsC C q qs) D (ps.map L3.D.int) [some (.ref s), some (.int t), some (.int z), y3, y4, y5] C
  | [], z, y3, y4, y5, _ => ⟨hq, hK z y3 y4 y5⟩
  | p :: ps, z, y3, y4, y5, hp => by
    obtain ⟨p1, p2⟩ := hp p List.mem_cons_self
    refine ⟨hq, _, rfl, ?_⟩
    simp only [mixB, b__law_mixed]
    rw [rdSs_cons]
    simp_arith []
    have d1 : 0 ≤ p.fdiv 17 := by rw [Int.fdiv_eq_ediv_of_nonneg _ (by decide)]; omega
    have d2 : p.fdiv 17 ≤ p := by rw [Int.fdiv_eq_ediv_of_nonneg _ (by decide)]; omega
    refine ⟨.inl ⟨by decide, by decide⟩, ⟨by decide, by decide⟩, ?_⟩
    rw [rdSs_cons]
    simp_arith [sFor, iSeq, ix_cells h]
    refine ⟨_, h.cells, cells_loop p1 p2 C (fun z' y5' hz' => ?_) h.cells cs _ _ (by omega)⟩
    dsimp only
    rw [rdSs_cons]
    simp_arith []
    exact ⟨.inr ⟨by decide, by decide⟩, ⟨by decide, by decide, by omega⟩, by omega, mix_loop h hq ht ht2 hK ps _ _ _ _ fun x hx => hp x (List.mem_cons_of_mem _ hx)⟩
theorem mixed_ok {n : Nat} {C0 C : CH} {s l c : Addr} {ls cs : List Int} {r t : Int} {Q : Kv} {E : Kx} (h : StAt C0 C s l c ls cs r t) (ht : 0 ≤ t) (ht2 : t + 1 ≤ 2 ^ 40) (hq : ∀ (z : Int) C', StAt C0 C' s l c ls cs r (t + 1) → Q (.int z) C') : W (n + 1) i__law_mixed [.ref s] C Q E := by
  rw [W__law_mixed]
  unfold b__law_mixed
  rw [rdSs_cons]
  simp_arith [ix_turn h]
  rw [rdSs_cons]
  simp_arith []
  refine set_turn h.at_ ?_
  have h2 := h.put (r' := r) (t' := t + 1)
  generalize cup C s (.dic (stK l c r (t + 1))) = C2 at h2
  rw [rdSs_cons]
  simp_arith []
  rw [rdSs_cons]
  simp_arith [sFor, iSeq, oLst]
  intro p hp
  refine mix_loop (ps := [2147483629, 2147483587, 2147483579, 2147483563, 2147483549]) (h2.new hp) cup_same (by omega) ht2 (fun z y3 y4 y5 => ?_) 0 _ _ _ (by decide)
  dsimp only
  rw [rdSs_cons]
  simp_arith []
  exact ⟨_, Sub.refl, hq _ _ (h2.new hp)⟩
theorem take_ok {n N : Nat} {C0 C : CH} {s : Addr} {size : Int} {Q : Kv} {E : Kx} (h : St C0 C s (N + 1)) (h1 : 1 ≤ size) (h2 : size < 1073741824) (hq : ∀ k C', 0 ≤ k → k < size → St C0 C' s N → Q (.int k) C') : W (n + 2) i__law_take [.ref s, .int size] C Q E := by
  rw [W__law_take]
  unfold b__law_take
  rw [rdSs_cons]
  obtain ⟨l, c, ls, cs, r, t, h, ht, htN, hl, hc⟩ := h
  have tail : ∀ (ls : List Int) (r t : Int) C, StAt C0 C s l c ls cs r t → 0 ≤ t → t + N ≤ 2 ^ 40 → (ls.length : Int) ≤ 1000 → rdSs (GG (n + 1)) (exN E) (b__law_take.drop 1) (endN Q) [some (.ref s), some (.int size), none] C := by
    intro ls r t C h ht htN hl
    simp only [b__law_take, List.drop]
    rw [rdSs_cons]
    simp_arith [ix_rest h]
    refine ⟨by omega, ?_⟩
    rw [rdSs_cons]
    simp_arith [ix_rest h]
    refine ⟨⟨by omega, by omega⟩, set_rest h.at_ ?_⟩
    rw [rdSs_cons]
    simp_arith []
    exact ⟨_, Sub.refl, hq _ _ (Int.fmod_nonneg_of_pos _ (by omega)) (Int.fmod_lt_of_pos _ (by omega)) ⟨l, c, ls, cs, _, t, h.put, ht, htN, hl, hc⟩⟩
  simp_arith [ix_rest h]
  by_cases h0 : r = 0
  · rw [if_pos (decide_eq_true h0), rdSs_cons]
    simp_arith [ix_large h, oLst]
    intro p hp
    refine ints_ne (cup_old hp h.large) cup_same ?_
    have h' := h.new (o := .lst []) hp
    cases ls with
    | nil =>
      simp_arith [List.isEmpty, GG_call]
      refine mixed_ok (n := n) h' ht (by omega) fun z C' h' => ?_
      refine set_rest h'.at_ ?_
      exact tail _ _ _ _ h'.put (by omega) (by omega) hl
    | cons z zs =>
      simp_arith [List.isEmpty, ix_large h']
      refine ⟨isLst_of h'.large, ?_⟩
      refine ⟨l, _, 0, 0, .int z, rfl, rfl, h'.large, by decide, by decide, ?_, rfl, ?_⟩
      · show seqIndex? 0 _ = some 0
        simp [seqIndex?]
      · have h2 : StAt C0 (cup (cup C p (.lst [])) l (.lst (zs.map L3.D.int))) s l c zs cs r t := h'.putL
        refine set_rest h2.at_ ?_
        have h3 := h2.put (r' := z) (t' := t)
        simp only [List.length_cons] at hl
        exact tail _ _ _ _ h3 ht (by omega) (by omega)
  · rw [if_neg (by simp [h0])]
    exact tail _ _ _ _ h ht (by omega) hl
theorem pick_ok {n N : Nat} {C0 C : CH} {s p : Addr} {xs : List D} {Q : Kv} {E : Kx} (h : St C0 C s (N + 1)) (hp : C0 p = some (.lst xs)) (h1 : 1 ≤ xs.length) (h2 : xs.length < 1000000) (hq : ∀ d C', d ∈ xs → St C0 C' s N → Q d C') : W (n + 3) i__law_pick [.ref s, .ref p] C Q E := by
  rw [W__law_pick]
  unfold b__law_pick
  have hC : C p = some (.lst xs) := by obtain ⟨l, c, ls, cs, r, t, h, _⟩ := h; exact h.sub _ _ hp
  simp_arith! [hC, GG_call]
  refine take_ok h (by omega) (by omega) fun k C' k1 k2 h' => ?_
  have hC' : C' p = some (.lst xs) := by obtain ⟨l, c, ls, cs, r, t, h', _⟩ := h'; exact h'.sub _ _ hp
  obtain ⟨j, rfl⟩ : ∃ j : Nat, k = j := ⟨k.toNat, by omega⟩
  have hj : j < xs.length := by omega
  refine oIxA_lst hC' (atI_nat (List.getElem?_eq_getElem hj)) ⟨C', Sub.refl, hq _ _ (List.getElem_mem hj) h'⟩
theorem pick_str {n N : Nat} {C0 C : CH} {s : Addr} {z : Str} {Q : Kv} {E : Kx} (h : St C0 C s (N + 1)) (h1 : 1 ≤ z.length) (h2 : z.length < 1000000) (hq : ∀ c C', c ∈ z.cps.toList → St C0 C' s N → Q (.str ⟨#[c]⟩) C') : W (n + 3) i__law_pick [.ref s, .str z] C Q E := by
  rw [W__law_pick]
  unfold b__law_pick
  have hs : z.length ≤ sizeLine := by have : 1000000 ≤ sizeLine := (by decide); omega
  simp_arith! [GG_call]
  refine ⟨hs, ?_⟩
  refine take_ok h (by omega) (by omega) fun k C' k1 k2 h' => ?_
  obtain ⟨j, rfl⟩ : ∃ j : Nat, k = j := ⟨k.toNat, by omega⟩
  rw [len_cps] at k2
  have hj : j < z.cps.toList.length := by omega
  rw [oIxA_str]
  exact ⟨hs, _, atI_nat (List.getElem?_eq_getElem hj), C', Sub.refl, hq _ _ (List.getElem_mem hj) h'⟩
theorem St.alloc {C0 C : CH} {s p : Addr} {N : Nat} {o : CO} (h : St C0 C s N) (hp : C p = none) : St (cup C0 p o) (cup C p o) s N := by
  obtain ⟨l, c, ls, cs, r, t, h, h2⟩ := h
  have ne : ∀ q u, C q = some u → q ≠ p := fun q u e z => by rw [z, hp] at e; cases e
  refine ⟨l, c, ls, cs, r, t, ⟨cup_old hp h.at_, cup_old hp h.large, cup_old hp h.cells, fun a u e => ?_, ?_, ?_, ?_, h.lc⟩, h2⟩
  · by_cases ha : a = p
    · subst ha; rw [cup_same] at e ⊢; exact e
    · rw [cup_ne ha] at e ⊢; exact h.sub a u e
  · rw [cup_ne (ne _ _ h.at_)]; exact h.s0
  · rw [cup_ne (ne _ _ h.large)]; exact h.l0
  · rw [cup_ne (ne _ _ h.cells)]; exact h.c0
/-- what was made meanwhile is forgotten -/
theorem St.drop {C0 C1 C : CH} {s : Addr} {N : Nat} (h : St C1 C s N) (hs : Sub C0 C1) : St C0 C s N := by
  obtain ⟨l, c, ls, cs, r, t, h, h2⟩ := h
  have no : ∀ q, C1 q = none → C0 q = none := fun q e => by
    cases e2 : C0 q with
    | none => rfl
    | some u => rw [hs _ _ e2] at e; cases e
  exact ⟨l, c, ls, cs, r, t, ⟨h.at_, h.large, h.cells, hs.trans h.sub, no _ h.s0, no _ h.l0, no _ h.c0, h.lc⟩, h2⟩
theorem St.subC {C0 C : CH} {s : Addr} {N : Nat} (h : St C0 C s N) : Sub C0 C := by
  obtain ⟨l, c, ls, cs, r, t, h, h2⟩ := h
  exact h.sub
theorem St.no {C0 C : CH} {s p : Addr} {N : Nat} (h : St C0 C s N) (hp : C p = none) : C0 p = none := by
  cases e : C0 p with
  | none => rfl
  | some u => rw [h.subC _ _ e] at hp; cases hp
theorem St.le {C0 C : CH} {s : Addr} {M N : Nat} (h : St C0 C s N) (hm : M ≤ N) : St C0 C s M := St.less (k := N - M) (by rw [show M + (N - M) = N by omega]; exact h)
theorem St.sub {C0 C C' : CH} {s : Addr} {N : Nat} (h : St C0 C s N) (k : Sub C C') : St C0 C' s N := by
  obtain ⟨l, c, ls, cs, r, t, h, h2⟩ := h
  exact ⟨l, c, ls, cs, r, t, ⟨k _ _ h.at_, k _ _ h.large, k _ _ h.cells, h.sub.trans k, h.s0, h.l0, h.c0, h.lc⟩, h2⟩
theorem begin_ok {n : Nat} {ns : List Int} {C0 : CH} {Q : Kv} {E : Kx} (hl : ns.length ≤ 63) (hq : ∀ s C', St C0 C' s 1000000 → Q (.ref s) C') : W (n + 1) i__law_begin [.rls (ns.map D.int)] C0 Q E := by
  rw [W__law_begin]
  unfold b__law_begin
  rw [rdSs_cons]
  have h63 : (64 : Nat) ≤ sizeLine := by decide
  simp_arith [cLc, iSeq]
  refine lcL_if D.int (fun z : Int => D.int (z - 10 ^ 18)) (fun z => decide ((10 : Int) ^ 18 ≤ z)) trivial ns (fun z _ => ⟨_, rfl, fun Q' hQ => ?_, fun Q' hQ => ?_⟩) (by omega) ?_
  · simp_arith! [wipe3]
    exact ⟨⟨by decide, by decide, by decide⟩, hQ⟩
  · simp_arith! [wipe3]
    exact ⟨⟨by decide, by decide, by decide⟩, hQ⟩
  intro l hll
  have em2 : ((ns.filter fun z => decide ((10 : Int) ^ 18 ≤ z)).map fun z : Int => D.int (z - 10 ^ 18)) = ((ns.filter fun z => decide ((10 : Int) ^ 18 ≤ z)).map fun z : Int => z - 10 ^ 18).map D.int := by rw [List.map_map]; rfl
  rw [em2]
  generalize hls : ((ns.filter fun z => decide ((10 : Int) ^ 18 ≤ z)).map fun z : Int => z - 10 ^ 18) = ls
  have hlsl : ls.length ≤ 63 := by
    have := List.length_filter_le (fun z => decide ((10 : Int) ^ 18 ≤ z)) ns
    rw [← hls, List.length_map]
    omega
  rw [rdSs_cons]
  simp_arith [cDic, cPrs]
  refine ⟨_, _, rfl, SqC_rls.mpr rfl, fun c hcn => ?_⟩
  refine ⟨stK l c 0 0, rfl, rfl, by show 4 ≤ 15; decide, fun s hs => ⟨_, Sub.refl, hq _ _ ?_⟩⟩
  have e : dicOf (stK l c 0 0) = stK l c 0 0 := rfl
  rw [e]
  have no : ∀ (C : CH) (a b : Addr) (o : CO), cup C b o a = none → C a = none := fun C a b o h => by
    by_cases hab : a = b
    · subst hab; rw [cup_same] at h; cases h
    · rw [cup_ne hab] at h; exact h
  have hlc : l ≠ c := fun z => by rw [← z, cup_same] at hcn; cases hcn
  have hc0 := no _ _ _ _ hcn
  have hs0 := no _ _ _ _ (no _ _ _ _ hs)
  refine ⟨l, c, ls, ns, 0, 0, ⟨cup_same, cup_old hs (cup_old hcn cup_same), cup_old hs cup_same, ?_, hs0, hll, hc0, hlc⟩, by omega, by omega, by omega, by omega⟩
  exact ((sub_new hll).trans (sub_new hcn)).trans (sub_new hs)
/-- an own object of the base is written -/
theorem St.write {C0 C : CH} {s p : Addr} {N : Nat} {o o' : CO} (h : St (cup C0 p o) C s N) (hp : C0 p = none) : St (cup C0 p o') (cup C p o') s N := by
  obtain ⟨l, c, ls, cs, r, t, h, h2⟩ := h
  have ne : ∀ q, cup C0 p o q = none → q ≠ p ∧ C0 q = none := fun q e => by
    by_cases z : q = p
    · subst z; rw [cup_same] at e; cases e
    · rw [cup_ne z] at e; exact ⟨z, e⟩
  obtain ⟨n1, m1⟩ := ne _ h.s0
  obtain ⟨n2, m2⟩ := ne _ h.l0
  obtain ⟨n3, m3⟩ := ne _ h.c0
  refine ⟨l, c, ls, cs, r, t, ⟨by rw [cup_ne n1]; exact h.at_, by rw [cup_ne n2]; exact h.large, by rw [cup_ne n3]; exact h.cells, fun a u e => ?_, by rw [cup_ne n1]; exact m1, by rw [cup_ne n2]; exact m2, by rw [cup_ne n3]; exact m3, h.lc⟩, h2⟩
  by_cases z : a = p
  · subst z; rw [cup_same] at e ⊢; exact e
  · rw [cup_ne z] at e ⊢
    exact h.sub a u (by rw [cup_ne z]; exact e)
theorem Sub.no {C0 C : CH} {p : Addr} (h : Sub C0 C) (hp : C p = none) : C0 p = none := by
  cases e : C0 p with
  | none => rfl
  | some u => rw [h _ _ e] at hp; cases hp
theorem add_lists {C : CH} {a b : Addr} {xs ys : List D} {Q : Kv} (ha : C a = some (.lst xs)) (hb : C b = some (.lst ys)) (hl : xs.length + ys.length ≤ sizeLine) (q : ∀ p, C p = none → Q (.ref p) (cup C p (.lst (xs ++ ys)))) : oAddA (.ref a) (.ref b) C Q := ⟨xs, ys, ha, hb, hl, q⟩
/-- what was made meanwhile belongs to the base -/
theorem St.up {C0 C C' : CH} {s : Addr} {N : Nat} (h : St C0 C s N) (k : Sub C C') : ∃ C0', Sub C0 C0' ∧ St C0' C' s N ∧ ∀ a u, C a = none → C' a = some u → C0' a = some u := by
  obtain ⟨l, c, ls, cs, r, t, h, h2⟩ := h
  refine ⟨fun a => match C a with | none => C' a | some _ => C0 a, fun a u e => ?_, ⟨l, c, ls, cs, r, t, ⟨k _ _ h.at_, k _ _ h.large, k _ _ h.cells, fun a u e => ?_, ?_, ?_, ?_, h.lc⟩, h2⟩, fun a u e e2 => ?_⟩
  · have := h.sub _ _ e
    simp only [this]; exact e
  · cases e2 : C a with
    | none => rw [e2] at e; exact e
    | some w => rw [e2] at e; exact k _ _ (h.sub _ _ e)
  · simp only [h.at_]; exact h.s0
  · simp only [h.large]; exact h.l0
  · simp only [h.cells]; exact h.c0
  · simp only [e]; exact e2
theorem St.put {B C : CH} {s p : Addr} {N : Nat} {u o : CO} (h : St B C s N) (hp : B p = some u) : St (cup B p o) (cup C p o) s N := by
  obtain ⟨l, c, ls, cs, r, t, h, h2⟩ := h
  have ne : ∀ q, B q = none → q ≠ p := fun q e z => by rw [z, hp] at e; cases e
  refine ⟨l, c, ls, cs, r, t, ⟨by rw [cup_ne (ne _ h.s0)]; exact h.at_, by rw [cup_ne (ne _ h.l0)]; exact h.large, by rw [cup_ne (ne _ h.c0)]; exact h.cells, fun a v e => ?_, by rw [cup_ne (ne _ h.s0)]; exact h.s0, by rw [cup_ne (ne _ h.l0)]; exact h.l0, by rw [cup_ne (ne _ h.c0)]; exact h.c0, h.lc⟩, h2⟩
  by_cases z : a = p
  · subst z; rw [cup_same] at e ⊢; exact e
  · rw [cup_ne z] at e ⊢; exact h.sub a v e
theorem chars_list {S : List Nat} : ∀ {acc : List D}, (∀ d ∈ acc, ∃ c, c ∈ S ∧ d = .str ⟨#[c]⟩) → ∃ cs : List Nat, acc = cs.map (fun c => D.str ⟨#[c]⟩) ∧ ∀ c ∈ cs, c ∈ S
  | [], _ => ⟨[], rfl, fun _ h => nomatch h⟩
  | a :: acc, hR => by
    obtain ⟨cs, e, h⟩ := chars_list fun d hd => hR d (List.mem_cons_of_mem _ hd)
    obtain ⟨c, hc, e2⟩ := hR a List.mem_cons_self
    refine ⟨c :: cs, by rw [e, e2]; rfl, fun x hx => ?_⟩
    rcases List.mem_cons.mp hx with z | hx
    · rw [z]; exact hc
    · exact h x hx
theorem join_chs {C : CH} {p : Addr} {cs : List Nat} {Q : Kv} (hp : C p = some (.lst (cs.map fun c => D.str ⟨#[c]⟩))) (hl : cs.length ≤ 1000) (q : ∀ z : Str, z.cps.toList = cs → z.length = cs.length → Q (.str z) C) : oJoin (.str (Str.ofString "")) [.ref p] C Q := by
  refine ⟨_, _, cs.map (fun c => (⟨#[c]⟩ : Str)), rfl, rfl, SqC_ref.mpr (by rw [hp, List.map_map]; rfl), ?_, ?_⟩
  · have e1 : ((cs.map fun c => (⟨#[c]⟩ : Str)).map (·.length)).sum = cs.length := by
      clear q hl hp
      induction cs with
      | nil => rfl
      | cons c cs ih =>
        rw [List.map_cons, List.map_cons, List.sum_cons, ih, List.length_cons, show (⟨#[c]⟩ : Str).length = 1 from rfl]
        omega
    rw [e1, show (Str.ofString "").length = 0 from rfl]
    omega
  · have hj := join_chars cs
    exact q _ hj (by rw [len_cps, hj])
theorem lcL_chars {TT : CT} {vs : List Nat} {σ : Env3} {e : CTE} {C0 C : CH} {s : Addr} {N m : Nat} {S : List Nat} {Kq : List D → CH → Prop} (h : St C0 C s (N + m)) (hm : m ≤ 1000) (hK : ∀ (cs : List Nat) C', cs.length = m → (∀ c ∈ cs, c ∈ S) → St C0 C' s N → Kq (cs.map fun c => D.str ⟨#[c]⟩) C')
    (hs : ∀ d ∈ rngD 0 m, ∀ k C, St C0 C s (N + (k + 1)) → ∃ σ2, bindT TT d (wipe3 σ vs) = some σ2 ∧ ∀ Q : Kv, (∀ c C', c ∈ S → St C0 C' s (N + k) → Q (.str ⟨#[c]⟩) C') → e σ2 C Q) : lcL TT vs σ cYes e (fun _ => True) Kq (rngD 0 m) [] C := by
  have hjt : (rngD 0 m).length = m := by simp [rngD]
  refine lcL_run (fun k C => St C0 C s (N + k)) (fun d => ∃ c, c ∈ S ∧ d = .str ⟨#[c]⟩) (fun _ _ _ => trivial) _ [] C ?_ (fun _ h => nomatch h) ?_ ?_ ?_
  · rw [hjt]; exact h
  · rw [hjt]; have : 1000 ≤ sizeLine := (by decide); simp only [List.length_nil]; omega
  · intro acc C3 h3 hla hR
    obtain ⟨cs, hcs, hcl⟩ := chars_list hR
    subst hcs
    simp only [List.length_nil, List.length_map] at hla
    rw [hjt] at hla
    exact hK cs C3 (by omega) hcl h3
  · intro d hd k C3 h3
    obtain ⟨σ2, e1, e2⟩ := hs d hd k C3 h3
    exact ⟨σ2, e1, fun Q hQ => e2 Q fun c C' hc h' => hQ _ _ ⟨c, hc, rfl⟩ h'⟩
theorem tname_ok {n N : Nat} {C0 C : CH} {s : Addr} {Q : Kv} {E : Kx} (h : St C0 C s (N + 9)) (hq : ∀ z C', goodNm z → St C0 C' s N → Q (.str z) C') : W (n + 5) i__law_name [.ref s] C Q E := by
  have hsl : 1000000 ≤ sizeLine := by decide
  rw [W__law_name]
  unfold b__law_name
  rw [rdSs_cons]
  simp_arith [GG_call, oLst]
  intro p hp
  have h1 := h.alloc (o := .lst [D.int 1, D.int 1, D.int 2, D.int 3, D.int 8]) hp
  refine pick_ok (n := n + 1) (N := N + 8) h1 cup_same (by decide) (by decide) fun d C1 hd h2 => ?_
  have h2' := h2.drop (sub_new (h.no hp))
  have hm : ∃ m : Nat, d = .int ((m + 1 : Nat) : Int) ∧ m ≤ 7 := by
    simp only [List.mem_cons, List.not_mem_nil, or_false] at hd
    rcases hd with e | e | e | e | e <;> rw [e]
    · exact ⟨0, rfl, by decide⟩
    · exact ⟨0, rfl, by decide⟩
    · exact ⟨1, rfl, by decide⟩
    · exact ⟨2, rfl, by decide⟩
    · exact ⟨7, rfl, by decide⟩
  obtain ⟨m, rfl, hm7⟩ := hm
  rw [rdSs_cons]
  simp_arith [GG_call]
  refine pick_str (n := n + 1) (N := N + 7) h2' (by decide +kernel) (by decide +kernel) fun c C2 hc h3 => ?_
  simp_arith [isStr, cLc, iRg1]
  refine ⟨by omega, by omega, ?_⟩
  have em : (((m + 1 : Nat) : Int) - 1).toNat = m := by omega
  rw [em]
  refine lcL_chars (S := SIG.cps.toList) (N := N + 7 - m) (m := m) (h3.le (by omega)) (by omega) ?_ ?_
  · intro cs C3 hcl hcs h4 r hr
    refine join_chs cup_same (by omega) fun z hz hzl => ?_
    have hc1 : (⟨#[c]⟩ : Str).length = 1 := rfl
    simp_arith []
    refine ⟨by omega, C3, sub_new hr, hq _ _ (good_chars (c := c) (cs := cs) ?_ hc hcs (by omega)) (h4.le (by omega))⟩
    have := TL.tl_append (⟨#[c]⟩ : Str) z
    exact this.trans (by show [c] ++ z.cps.toList = _; rw [hz]; rfl)
  · intro d hd k C3 h4
    obtain ⟨i, hi, rfl⟩ := List.mem_map.mp hd
    refine ⟨_, rfl, fun Q' hQ => ?_⟩
    simp_arith! [wipe3, GG_call]
    refine ⟨by decide +kernel, ?_⟩
    rw [sig_split]
    exact pick_str (n := n + 1) (N := N + 7 - m + k) h4 (by decide +kernel) (by decide +kernel) fun c C' hc h' => hQ _ _ hc h'
/-- draws for a value of a height -/
noncomputable def bud (r : Nat) : Nat := 24 * 2 ^ r - 12
theorem bud_pos (r : Nat) : 12 ≤ bud r := by
  unfold bud
  have : 1 ≤ 2 ^ r := Nat.one_le_two_pow
  omega
theorem bud_succ (r : Nat) : bud (r + 1) = bud r + bud r + 12 := by
  have := bud_pos r
  unfold bud at *
  rw [Nat.pow_succ]; omega
theorem vv_list {k : Nat} : ∀ {acc : List D}, (∀ d ∈ acc, ∃ v, Good k v ∧ d = v.t.d) → ∃ vs : List Vv, acc = vs.map (fun v => v.t.d) ∧ ∀ v ∈ vs, Good k v
  | [], _ => ⟨[], rfl, fun _ h => nomatch h⟩
  | a :: acc, hR => by
    obtain ⟨vs, e, h⟩ := vv_list fun d hd => hR d (List.mem_cons_of_mem _ hd)
    obtain ⟨v, hv, e2⟩ := hR a List.mem_cons_self
    refine ⟨v :: vs, by rw [e, e2]; rfl, fun x hx => ?_⟩
    rcases List.mem_cons.mp hx with z | hx
    · rw [z]; exact hv
    · exact h x hx
theorem thing_ok : ∀ (r n N : Nat) (C0 C : CH) (s : Addr) (Q : Kv) (E : Kx), St C0 C s (N + bud r) → (∀ v C', Good r v → St C0 C' s N → Q v.t.d C') → W (n + r + 6) i__law_thing [.ref s, .int (r : Nat)] C Q E
  | r, n, N, C0, C, s, Q, E, h, hq => by
    have hb := bud_pos r
    have leaf : ∀ (C1 : CH) (K : Kv) (E' : Kx), St C0 C1 s (N + 1) → (∀ v C', Good r v → St C0 C' s N → K v.t.d C') → W (n + r + 5) i__law_take [.ref s, .int 3] C1 (fun d C2 => oAddA (.int 1) d C2 K) E' := by
      intro C1 K E' h1 hK
      refine take_ok (n := n + r + 3) (N := N) h1 (by decide) (by decide) fun j C2 j0 j3 h2 => ?_
      simp_arith []
      exact hK (.item (1 + j)) C2 (good_item.mpr ⟨by omega, by omega⟩) h2
    have stop : ∀ C1, St C0 C1 s (N + 1) → rdSs (GG (n + r + 5)) (exN E) [.ret (.bin .add (.cst (.int 1)) (.call i__law_take 2 2 0 [.pos 0, .pos 1] [(.var 0), (.cst (.int 3))] []))] (endN Q) [some (.ref s), some (.int (r : Nat)), none, none] C1 := by
      intro C1 h1
      rw [rdSs_cons]
      simp_arith [GG_call]
      exact leaf C1 _ _ h1 fun v C' g h' => ⟨C', Sub.refl, hq v C' g h'⟩
    rw [W__law_thing]
    unfold b__law_thing
    rw [rdSs_cons]
    cases r with
    | zero =>
      simp_arith []
      exact stop C (h.le (by omega))
    | succ k =>
      have hr0 : (((k + 1 : Nat) : Int) = 0) = False := by simp; omega
      have ek : ((k + 1 : Nat) : Int) - 1 = (k : Nat) := by omega
      rw [bud_succ] at h
      have hbk := bud_pos k
      simp_arith [hr0, decide_false, GG_call]
      refine take_ok (n := n + (k + 1) + 3) (N := N + (bud k + bud k) + 11) h (by decide) (by decide) fun j C1 j0 j4 h1 => ?_
      simp_arith []
      by_cases hj : j = 0
      · rw [if_pos (decide_eq_true hj)]
        exact stop C1 (h1.le (by omega))
      · rw [if_neg (by simp [hj])]
        rw [rdSs_cons]
        simp_arith [cLc, iRg1, GG_call]
        refine take_ok (n := n + (k + 1) + 3) (N := N + (bud k + bud k) + 10) h1 (by decide) (by decide) fun i C2 i0 i2 h2 => ?_
        simp_arith []
        refine ⟨by omega, by omega, ?_⟩
        have em : ∃ m : Nat, (1 + i).toNat = m ∧ (m = 1 ∨ m = 2) := ⟨_, rfl, by omega⟩
        obtain ⟨m, em, m12⟩ := em
        rw [em]
        have lm : (rngD 0 m).length = m := by simp [rngD]
        have big := big5
        refine lcL_run (fun j C => St C0 C s (N + 9 + j * bud k)) (fun d => ∃ v, Good k v ∧ d = v.t.d) (fun _ _ _ => trivial) _ [] C2 ?_ (fun _ h => nomatch h) (by rw [lm]; simp only [List.length_nil]; omega) ?_ ?_
        · rw [lm]
          rcases m12 with e | e <;> rw [e] <;> exact h2.le (by omega)
        · intro acc C3 h3 hla hR
          obtain ⟨vs, rfl, gv⟩ := vv_list hR
          rw [lm] at hla
          simp only [List.length_nil, List.length_map, Nat.zero_add] at hla
          intro p hp
          have h3' : St C0 C3 s (N + 9) := h3.le (by omega)
          have h4 := h3'.alloc (o := .lst (vs.map fun v => v.t.d)) hp
          rw [rdSs_cons]
          simp_arith [GG_call]
          refine tname_ok (n := n + (k + 1)) (N := N) h4 fun z C4 gz h5 => ?_
          have hp4 : C4 p = some (.lst (vs.map fun v => v.t.d)) := h5.subC _ _ cup_same
          refine oTuple_lst hp4 ?_
          have h6 := h5.drop (sub_new (h3'.no hp))
          match vs, gv, hla with
          | [a], gv, _ =>
            simp_arith []
            refine ⟨C4, Sub.refl, ?_⟩
            have := hq (.app1 z a) C4 (good_app1.mpr ⟨gz, k, rfl, gv a List.mem_cons_self⟩) h6
            rw [app1_d] at this
            exact this
          | [a, b], gv, _ =>
            simp_arith []
            refine ⟨C4, Sub.refl, ?_⟩
            have := hq (.app2 z a b) C4 (good_app2.mpr ⟨gz, k, rfl, gv a List.mem_cons_self, gv b (by simp)⟩) h6
            rw [app2_d] at this
            exact this
          | [], _, hla => simp at hla; omega
          | _ :: _ :: _ :: _, _, hla => simp at hla; omega
        · intro d hd j C3 h3
          obtain ⟨i', hi', rfl⟩ := List.mem_map.mp hd
          refine ⟨_, rfl, fun Q' hQ => ?_⟩
          simp_arith! [wipe3, GG_call, ek]
          refine thing_ok k (n + 0) (N + 9 + j * bud k) C0 C3 s _ _ ?_ fun v C' g h' => hQ _ _ ⟨v, g, rfl⟩ h'
          rw [show (j + 1) * bud k = j * bud k + bud k by rw [Nat.add_mul]; omega, ← Nat.add_assoc] at h3
          exact h3
theorem law_text_ok : ∀ (r n : Nat) (v : Vv) (C : CH) (Q : Kv) (E : Kx), Good r v → r ≤ 8 → Q (.str (mkS (tx v))) C → W (n + r + 2) i__law_text [v.t.d] C Q E
  | r, n, .item i, C, Q, E, g, hr, hq => by
    obtain ⟨h1, h3⟩ := good_item.mp g
    obtain ⟨a1, a2, a3, a4⟩ := item_str h1 h3
    rw [W__law_text]
    unfold b__law_text
    rw [rdSs_cons]
    simp_arith [Vv.t, T.d, GG_kit]
    rw [rdSs_cons]
    simp_arith [oStrI]
    refine ⟨a1, ?_⟩
    have e0 : Str.empty ++ Str.ofString "x" = Str.ofString "x" := by decide +kernel
    rw [e0] at a3 a4
    rw [← a4] at hq
    have ln : (Str.ofString "x" ++ Str.ofString (toString i)).length = (Str.ofString "x").length + (Str.ofString (toString i)).length := by
      rw [len_cps, tl_app, List.length_append, ← len_cps, ← len_cps]
    exact ⟨by rw [← ln]; exact a3, C, Sub.refl, hq⟩
  | r, n, .app1 z a, C, Q, E, g, hr, hq => by
    have big := big5
    have p8 := pow8 hr
    have ts := tx_short g
    obtain ⟨gz, k, rfl, ga⟩ := good_app1.mp g
    have z8 := gz.2.1
    have hlz := len_cps z
    rw [W__law_text]
    unfold b__law_text
    rw [rdSs_cons]
    simp_arith [Vv.t, T.d, GG_kit]
    rw [rdSs_cons]
    simp_arith [T.ds, T.d, GG_call, cLc, iSeq, lcL, wipe3, cutD_tail, cYes]
    rw [s_open, s_close, s_comma, app_r]
    have lt : (z.cps.toList ++ 40 :: (tx a ++ [41])).length ≤ 14 * 2 ^ (k + 1 + 1) := ts
    simp only [List.length_append, List.length_cons, List.length_nil] at lt
    refine ⟨by rw [mkS_len]; show z.length + 1 ≤ sizeLine; omega, ⟨_, rfl⟩, law_text_ok k n a C _ _ ga (by omega) ?_⟩
    intro p hp
    refine oJoin_mk (ys := [tx a]) cup_same (by simp; omega) ?_
    rw [joinL1]
    simp_arith [app_mk, mkS_len]
    refine ⟨by simp only [List.length_append, List.length_cons, List.length_nil]; omega, by simp only [List.length_append, List.length_cons, List.length_nil]; omega, C, sub_new hp, ?_⟩
    have e : tx (.app1 z a) = z.cps.toList ++ [40] ++ tx a ++ [41] := by simp [tx]
    rw [e] at hq
    exact hq
  | r, n, .app2 z a b, C, Q, E, g, hr, hq => by
    have big := big5
    have p8 := pow8 hr
    have ts := tx_short g
    obtain ⟨gz, k, rfl, ga, gb⟩ := good_app2.mp g
    have z8 := gz.2.1
    have hlz := len_cps z
    rw [W__law_text]
    unfold b__law_text
    rw [rdSs_cons]
    simp_arith [Vv.t, T.d, GG_kit]
    rw [rdSs_cons]
    simp_arith [T.ds, T.d, GG_call, cLc, iSeq, lcL, wipe3, cutD_tail, cYes]
    rw [s_open, s_close, s_comma, app_r]
    have lt : (z.cps.toList ++ 40 :: (tx a ++ (44 :: 32 :: (tx b ++ [41])))).length ≤ 14 * 2 ^ (k + 1 + 1) := ts
    simp only [List.length_append, List.length_cons, List.length_nil] at lt
    refine ⟨by rw [mkS_len]; show z.length + 1 ≤ sizeLine; omega, ⟨_, rfl⟩, law_text_ok k n a C _ _ ga (by omega) ?_⟩
    refine law_text_ok k n b C _ _ gb (by omega) ?_
    refine ⟨by simp only [List.nil_append, List.length_append, List.length_cons, List.length_nil]; omega, ?_⟩
    intro p hp
    refine oJoin_mk (ys := [tx a, tx b]) cup_same (by simp; omega) ?_
    rw [joinL2]
    simp_arith [app_mk, mkS_len]
    refine ⟨by simp only [List.length_append, List.length_cons, List.length_nil]; omega, by simp only [List.length_append, List.length_cons, List.length_nil]; omega, C, sub_new hp, ?_⟩
    have e : tx (.app2 z a b) = z.cps.toList ++ [40] ++ (tx a ++ ([44, 32] ++ tx b)) ++ [41] := by simp [tx]
    rw [e] at hq
    exact hq
theorem tx_so : ∀ {v : Vv} {r : Nat}, Good r v → ∀ c ∈ tx v, c < 1114112
  | .item i, r, g, c, hc => by
    obtain ⟨h1, h3⟩ := good_item.mp g
    exact sig_small c (of_decide_eq_true ((itemOf_item h1 h3).2.1 c hc))
  | .app1 z a, r, g, c, hc => by
    obtain ⟨gz, k, rfl, ga⟩ := good_app1.mp g
    simp only [tx, List.mem_append, List.mem_cons, List.not_mem_nil, or_false] at hc
    rcases hc with hc | hc | hc | hc
    · exact so_lt gz.2.2 c hc
    · omega
    · exact tx_so ga c hc
    · omega
  | .app2 z a b, r, g, c, hc => by
    obtain ⟨gz, k, rfl, ga, gb⟩ := good_app2.mp g
    simp only [tx, List.mem_append, List.mem_cons, List.not_mem_nil, or_false] at hc
    rcases hc with hc | hc | hc | hc | hc | hc | hc
    · exact so_lt gz.2.2 c hc
    · omega
    · exact tx_so ga c hc
    · omega
    · omega
    · exact tx_so gb c hc
    · omega
noncomputable abbrev refu : D := .str (Str.ofString "refused")
section
variable {n : Nat} {u : U} {ex : Kxs} {σ : Env3} {C : CH} {Q : Kv}
/-- height(x), told -/
theorem told_height (h0 : σ[0]? = some (some u.d)) (ho : UOk C u) (hq : ∀ q, measU 4 u = some q → Q (.int q.1) C) (he : measU 4 u = none → Q refu C) :
    rdE (GG (n + 10)) ex (.lam i__law_told (.call i_height 1 1 0 [.pos 0] [(.var 0)] [])) σ C Q := by
  refine told_call (n := n + 7) fun EX h1 Q1 h2 => ?_
  simp_arith [GA_call, h0]
  exact height_U (n := n) ho (fun q hm => h2 _ _ (hq q hm)) fun hm => h1 _ _ (he hm)
theorem told_heightK (h0 : σ[0]? = some (some u.d)) (ho : UOk C u) (hq : ∀ q, measU 4 u = some q → Q (.int q.1) C) (he : measU 4 u = none → Q refu C) :
    rdE (GG (n + 10)) ex (.lam i__law_told (.call i_height 1 0 1 [.kw 0] [] [(.var 0)])) σ C Q := by
  refine told_call (n := n + 7) fun EX h1 Q1 h2 => ?_
  simp_arith [GA_call, h0]
  exact height_U (n := n) ho (fun q hm => h2 _ _ (hq q hm)) fun hm => h1 _ _ (he hm)
/-- what is told of a level -/
noncomputable def lvA (u : U) (l : Int) : D := match measU 4 u with
  | none => refu
  | some q => if q.2 ≤ l then .non else refu
theorem need_told {l : Int} {Q1 : Kv} {E : Kx} (ho : UOk C u) (h2 : Q (lvA u l) C → lvA u l = .non → Q1 .non C) (h1 : Q (lvA u l) C → lvA u l = refu → E nov C) (hq : Q (lvA u l) C) : W (n + 9) i_need_value [u.d, .int l] C Q1 E := by
  refine need_value_U ho (fun q hm hl => h2 hq ?_) fun h => h1 hq ?_
  · unfold lvA; rw [hm]; simp only [if_pos hl]
  · unfold lvA
    cases hm : measU 4 u with
    | none => rfl
    | some q => simp only [if_neg (h q hm)]
theorem told_need1 (h0 : σ[0]? = some (some u.d)) (ho : UOk C u) (hq : Q (lvA u 1) C) : rdE (GG (n + 11)) ex (.lam i__law_told (.call i_need_value 2 2 0 [.pos 0, .pos 1] [(.var 0), (.cst (.int 1))] [])) σ C Q := by
  refine told_call (n := n + 8) fun EX h1 Q1 h2 => ?_
  simp_arith [GA_call, h0]
  exact need_told (n := n) ho (fun q e => h2 _ _ (by rw [e] at q; exact q)) (fun q e => h1 _ _ (by rw [e] at q; exact q)) hq
theorem told_need2 (h0 : σ[0]? = some (some u.d)) (ho : UOk C u) (hq : Q (lvA u 2) C) : rdE (GG (n + 11)) ex (.lam i__law_told (.call i_need_value 2 0 2 [.kw 1, .kw 0] [] [(.cst (.int 2)), (.var 0)])) σ C Q := by
  refine told_call (n := n + 8) fun EX h1 Q1 h2 => ?_
  simp_arith [GA_call, h0]
  exact need_told (n := n) ho (fun q e => h2 _ _ (by rw [e] at q; exact q)) (fun q e => h1 _ _ (by rw [e] at q; exact q)) hq
theorem told_need3 (h0 : σ[0]? = some (some u.d)) (ho : UOk C u) (hq : Q (lvA u 3) C) : rdE (GG (n + 11)) ex (.lam i__law_told (.call i_need_value 2 1 1 [.pos 0, .kw 0] [(.var 0)] [(.cst (.int 3))])) σ C Q := by
  refine told_call (n := n + 8) fun EX h1 Q1 h2 => ?_
  simp_arith [GA_call, h0]
  exact need_told (n := n) ho (fun q e => h2 _ _ (by rw [e] at q; exact q)) (fun q e => h1 _ _ (by rw [e] at q; exact q)) hq
theorem told_need4 (h0 : σ[0]? = some (some u.d)) (ho : UOk C u) (hq : Q (lvA u 3) C) : rdE (GG (n + 11)) ex (.lam i__law_told (.call i_need_value 2 0 1 [.kw 0, .dfl (.int 3)] [] [(.var 0)])) σ C Q := by
  refine told_call (n := n + 8) fun EX h1 Q1 h2 => ?_
  simp_arith [GA_call, h0]
  exact need_told (n := n) ho (fun q e => h2 _ _ (by rw [e] at q; exact q)) (fun q e => h1 _ _ (by rw [e] at q; exact q)) hq
theorem told_text (h0 : σ[0]? = some (some u.d)) (ho : UOk C u) (hq : measU 4 u ≠ none → ∀ v, Good 4 v → u.d = v.t.d → Q (.str (mkS (tx v))) C) (he : measU 4 u = none → Q refu C) :
    rdE (GG (n + 12)) ex (.lam i__law_told (.call i_value_text 1 1 0 [.pos 0] [(.var 0)] [])) σ C Q := by
  refine told_call (n := n + 9) fun EX h1 Q1 h2 => ?_
  simp_arith [GA_call, h0]
  exact value_text_U (n := n) ho (fun z v g e => h2 _ _ (hq z v g e)) fun hm => h1 _ _ (he hm)
theorem told_textK (h0 : σ[0]? = some (some u.d)) (ho : UOk C u) (hq : measU 4 u ≠ none → ∀ v, Good 4 v → u.d = v.t.d → Q (.str (mkS (tx v))) C) (he : measU 4 u = none → Q refu C) :
    rdE (GG (n + 12)) ex (.lam i__law_told (.call i_value_text 1 0 1 [.kw 0] [] [(.var 0)])) σ C Q := by
  refine told_call (n := n + 9) fun EX h1 Q1 h2 => ?_
  simp_arith [GA_call, h0]
  exact value_text_U (n := n) ho (fun z v g e => h2 _ _ (hq z v g e)) fun hm => h1 _ _ (he hm)
end
theorem law_sizes_V {N k : Nat} {u : U} {C : CH} {Q : Kv} {E : Kx} (hN : k + 2 ≤ N) (ho : UOk C u) (hd : Dp k u) (hq : Q (measD (measU k u)) C) : W N i__law_sizes [u.d] C Q E := by
  obtain ⟨m, rfl⟩ : ∃ m, N = m + k + 2 := ⟨N - k - 2, by omega⟩
  exact law_sizes_U k m u C Q E ho hd hq
/-- the texts of a list of two equal things are the same -/
structure Shw (x : D) (px : PyData) : Prop where
  sn : ∀ C, Snap C x px
  sh : (PyData.list [px, px]).showable = true
  le : (PyData.list [px, px]).shown.length ≤ 100000
  dp : (PyData.list [px, px]).depth ≤ 350
  so : PyData.strOk (PyData.list [px, px]).shown = true
theorem repr_same {C : CH} {p : Addr} {x : D} {px : PyData} {K : Kv} (h : C p = some (.lst [x, x])) (s : Shw x px) (q : ∀ C', Sub C C' → K (.bl false) C') :
    oRepr [.ref p] C fun d C1 => oLst [x] C1 fun d1 C2 => oMulA d1 (.int 2) C2 fun d2 C3 => oRepr [d2] C3 fun e C4 => oEqN not d e C4 K := by
  have big := big5
  refine ⟨_, _, rfl, .lst h (.cons (s.sn _) (.cons (s.sn _) .nil)), s.sh, Nat.le_trans s.le big, s.dp, ?_⟩
  refine ⟨show (1 : Nat) ≤ sizeLine by decide, fun p1 hp1 => ?_⟩
  dsimp only
  rw [oMulA_lst]
  refine ⟨[x], cup_same, by decide, by decide, show 1 * 2 ≤ sizeLine by decide, fun p2 hp2 => ?_⟩
  refine ⟨_, _, rfl, .lst (ds := [x, x]) cup_same (.cons (s.sn _) (.cons (s.sn _) .nil)), s.sh, Nat.le_trans s.le big, s.dp, ?_⟩
  dsimp only
  rw [oEqN_strI s.so s.so]
  rw [show (!decide ((PyData.list [px, px]).shown = (PyData.list [px, px]).shown)) = false by simp]
  exact q _ ((sub_new hp1).trans (sub_new hp2))
theorem shw_refu : Shw refu (.str (Str.ofString "refused")) := ⟨fun C => .str _, by decide +kernel, by decide +kernel, by decide +kernel, by decide +kernel⟩
noncomputable def restB : List CS := match b__law_right with
  | _ :: _ :: r => r
  | _ => []
/-- two lists of four things, told apart by their data -/
theorem four_ne {C : CH} {p r : Addr} {a b c d : D} {pa pb pc pd : PyData} {K : Kv} (h : C p = some (.lst [a, b, c, d])) (h2 : C r = some (.lst [a, b, c, d])) (sa : Snap C a pa) (sb : Snap C b pb) (sc : Snap C c pc) (sd : Snap C d pd)
    (hd : deepOk (.list [pa, pb, pc, pd]) = true) (he : PyData.eqv (.list [pa, pb, pc, pd]) (.list [pa, pb, pc, pd]) = true) (q : K (.bl false) C) : oEqN not (.ref p) (.ref r) C K :=
  ⟨_, _, .lst h (.cons sa (.cons sb (.cons sc (.cons sd .nil)))), .lst h2 (.cons sa (.cons sb (.cons sc (.cons sd .nil)))), hd, hd, by rw [he]; exact q⟩
theorem rest_bad {n : Nat} {u : U} {C : CH} {ex : Kxs} {D0 : EndsC} {s1 : Option D} (ho : UOk C u) (hm : measU 4 u = none) (hq : ∀ C', Sub C C' → D0.rt (.bl true) C') :
    rdSs (GG (n + 19)) ex restB D0 [some u.d, s1, some (.bl false), none, none, none] C := by
  simp only [restB, b__law_right]
  rw [rdSs_cons]
  simp_arith [oLst]
  refine told_height (n := n + 9) rfl ho (fun q h => by rw [hm] at h; cases h) fun _ => ?_
  intro p hp
  rw [rdSs_cons]
  simp_arith []
  refine ⟨isLst_of cup_same, ?_⟩
  refine told_heightK (n := n + 9) rfl (ho.sub (sub_new hp)) (fun q h => by rw [hm] at h; cases h) fun _ => ?_
  refine oAppend_at cup_same (by decide) ?_
  rw [cup_cup]
  show rdSs _ _ _ _ _ (cup C p (.lst [refu, refu]))
  rw [rdSs_cons]
  simp_arith []
  refine repr_same cup_same shw_refu fun C2 s2 => ?_
  refine ⟨false, rfl, ?_⟩
  rw [if_neg Bool.false_ne_true, rdSs_cons]
  have S2 : Sub C C2 := fun a o e => s2 a o (cup_old hp e)
  simp_arith [oLst]
  refine told_need1 (n := n + 8) rfl (ho.sub S2) ?_
  intro p3 hp3
  rw [rdSs_cons]
  simp_arith []
  refine ⟨isLst_of cup_same, ?_⟩
  have S3 := S2.trans (sub_new (o := .lst [lvA u 1]) hp3)
  refine told_need2 (n := n + 8) rfl (ho.sub S3) ?_
  refine oAppend_at cup_same (show 1 < sizeLine by decide) ?_
  rw [cup_cup]
  rw [rdSs_cons]
  simp_arith []
  have S4 : Sub C (cup C2 p3 (.lst ([lvA u 1] ++ [lvA u 2]))) := S2.trans (sub_new hp3)
  refine ⟨isLst_of cup_same, ?_⟩
  refine told_need3 (n := n + 8) rfl (ho.sub S4) ?_
  refine oAppend_at cup_same (show 2 < sizeLine by decide) ?_
  rw [cup_cup]
  rw [rdSs_cons]
  simp_arith []
  have S5 : Sub C (cup C2 p3 (.lst ([lvA u 1] ++ [lvA u 2] ++ [lvA u 3]))) := S2.trans (sub_new hp3)
  refine ⟨isLst_of cup_same, ?_⟩
  refine told_need4 (n := n + 8) rfl (ho.sub S5) ?_
  refine oAppend_at cup_same (show 3 < sizeLine by decide) ?_
  rw [cup_cup]
  rw [rdSs_cons]
  simp_arith []
  have el : ∀ l, lvA u l = refu := fun l => by unfold lvA; rw [hm]
  simp only [el, List.cons_append, List.nil_append]
  simp_arith [cLc, iSeq, lcL, wipe3, cYes, List.cons_append, List.nil_append]
  intro p4 hp4
  refine four_ne (cup_old hp4 cup_same) cup_same (.str _) (.str _) (.str _) (.str _) (by decide +kernel) (by decide +kernel) ?_
  refine ⟨false, rfl, ?_⟩
  rw [if_neg Bool.false_ne_true, rdSs_cons]
  have S6 : Sub C (cup (cup C2 p3 (.lst [refu, refu, refu, refu])) p4 (.lst [refu, refu, refu, refu])) := (S2.trans (sub_new hp3)).trans (sub_new hp4)
  have sor : PyData.strOk (Str.ofString "refused") = true := by decide +kernel
  simp_arith []
  refine told_text (n := n + 7) rfl (ho.sub S6) (fun z => absurd hm z) fun _ => ?_
  rw [rdSs_cons]
  simp_arith []
  rw [rdSs_cons]
  simp_arith []
  rw [oEqN_strI sor sor]
  simp_arith []
  refine told_textK (n := n + 7) rfl (ho.sub S6) (fun z => absurd hm z) fun _ => ?_
  rw [oEqN_strI sor sor]
  rw [show (id (decide (Str.ofString "refused" = Str.ofString "refused"))) = true by simp]
  exact hq _ S6
theorem so_iff {z : Str} : PyData.strOk z = true ↔ ∀ c ∈ z.cps.toList, c < 1114112 := by
  show z.cps.all (· < 0x110000) = true ↔ _
  rw [← Array.all_toList, List.all_eq_true]
  simp only [decide_eq_true_eq]
theorem so_app {a b : Str} (ha : PyData.strOk a = true) (hb : PyData.strOk b = true) : PyData.strOk (a ++ b) = true := by
  rw [so_iff] at *
  intro c hc
  rw [show (a ++ b).cps.toList = a.cps.toList ++ b.cps.toList from TL.tl_append a b] at hc
  rcases List.mem_append.mp hc with h | h
  · exact ha c h
  · exact hb c h
theorem so_join {s : Str} (hs : PyData.strOk s = true) : ∀ ts : List Str, (∀ t ∈ ts, PyData.strOk t = true) → PyData.strOk (Str.join s ts) = true
  | [], _ => show PyData.strOk Str.empty = true by decide +kernel
  | [x], h => h x List.mem_cons_self
  | x :: y :: r, h => so_app (so_app (h x List.mem_cons_self) hs) (so_join hs (y :: r) fun t ht => h t (List.mem_cons_of_mem _ ht))
theorem ch_lt (c : Char) : c.toNat < 1114112 := by
  have := c.valid
  rcases this with h | ⟨_, h⟩
  · have : c.toNat < 55296 := h
    omega
  · exact h
theorem so_char {q c : Nat} (hc : c < 1114112) : ∀ x ∈ Builtin.Str.reprChar q c, x < 1114112 := by
  have hex : ∀ k, ∀ x ∈ List.replicate (k - ((Nat.toDigits 16 c).map Char.toNat).length) 48 ++ (Nat.toDigits 16 c).map Char.toNat, x < 1114112 := fun k x hx => by
    rcases List.mem_append.mp hx with h | h
    · have := List.eq_of_mem_replicate h; omega
    · obtain ⟨d, _, rfl⟩ := List.mem_map.mp h
      exact ch_lt d
  unfold Builtin.Str.reprChar
  dsimp only
  repeat' split
  all_goals intro x hx
  all_goals first
    | (simp only [List.mem_cons, List.not_mem_nil, or_false] at hx; rcases hx with rfl | rfl <;> omega)
    | (simp only [List.mem_cons, List.not_mem_nil, or_false] at hx; omega)
    | (rcases List.mem_append.mp hx with h | h
       · simp only [List.mem_cons, List.not_mem_nil, or_false] at h; rcases h with rfl | rfl <;> omega
       · exact hex _ x h)
theorem so_fold {q : Nat} : ∀ (l : List Nat) (acc : Array Nat), (∀ c ∈ l, c < 1114112) → (∀ c ∈ acc.toList, c < 1114112) → ∀ c ∈ (l.foldl (fun out c => out ++ (Builtin.Str.reprChar q c).toArray) acc).toList, c < 1114112
  | [], acc, _, h => h
  | x :: l, acc, hl, h => so_fold l _ (fun c hc => hl c (List.mem_cons_of_mem _ hc)) fun c hc => by
    rw [Array.toList_append] at hc
    rcases List.mem_append.mp hc with h' | h'
    · exact h c h'
    · exact so_char (hl x List.mem_cons_self) c h'
theorem so_repr {z : Str} (h : PyData.strOk z = true) : PyData.strOk (reprText z) = true := by
  rw [so_iff] at *
  have hq : reprQuote z < 1114112 := by
    unfold reprQuote
    split <;> omega
  intro c hc
  unfold reprText at hc
  rw [← Array.foldl_toList] at hc
  rw [Array.toList_push] at hc
  rcases List.mem_append.mp hc with h' | h'
  · refine so_fold _ _ h (fun c hc => ?_) c h'
    have : c = reprQuote z := by simpa using hc
    rw [this]; exact hq
  · rw [List.mem_singleton.mp h']; exact hq
/-- what is small enough to be shown -/
structure Shows (t : T) (w : Nat) : Prop where
  can : t.p.showable = true
  short : t.p.leavesShort 8 = true
  wt : t.p.weight ≤ w
  so : PyData.strOk t.p.shown = true
structure ShowsL (ts : List T) (w : Nat) : Prop where
  can : PyData.showableAll (T.pl ts) = true
  short : PyData.leavesShortAll 8 (T.pl ts) = true
  wt : PyData.weightAll (T.pl ts) ≤ w
  so : ∀ x ∈ PyData.shownAll (T.pl ts), PyData.strOk x = true
theorem ShowsL.nil : ShowsL [] 0 := ⟨rfl, rfl, Nat.le_refl _, fun _ h => nomatch h⟩
theorem ShowsL.cons {t : T} {ts : List T} {w v : Nat} (h : Shows t w) (hs : ShowsL ts v) : ShowsL (t :: ts) (w + 1 + v) := by
  refine ⟨?_, ?_, ?_, fun x hx => ?_⟩
  · simp only [T.pl, PyData.showableAll, h.can, hs.can, Bool.and_self]
  · simp only [T.pl, PyData.leavesShortAll, h.short, hs.short, Bool.and_self]
  · simp only [T.pl, PyData.weightAll]
    have := h.wt
    have := hs.wt
    omega
  · simp only [T.pl, PyData.shownAll] at hx
    rcases List.mem_cons.mp hx with e | hx
    · rw [e]; exact h.so
    · exact hs.so x hx
theorem ShowsL.tup {ts : List T} {w : Nat} (h : ShowsL ts w) : Shows (.tup ts) w := by
  refine ⟨h.can, h.short, h.wt, ?_⟩
  show PyData.strOk (tupleText (PyData.shownAll (T.pl ts))) = true
  unfold tupleText
  refine so_app (so_app (by decide +kernel) (so_join (by decide +kernel) _ h.so)) ?_
  split <;> decide +kernel
theorem Shows.le {t : T} {w v : Nat} (h : Shows t w) (hv : w ≤ v) : Shows t v := ⟨h.can, h.short, Nat.le_trans h.wt hv, h.so⟩
theorem shows_nm {z : Str} (h : goodNm z) : Shows (.str z) 8 := by
  refine ⟨rfl, ?_, ?_, so_repr h.2.2⟩
  · show (z.cps.toList.all fun c => decide (c < 16 ^ 8)) = true
    have := so_iff.mp h.2.2
    rw [List.all_eq_true]
    intro c hc
    have := this c hc
    exact decide_eq_true (by omega)
  · show z.cps.size ≤ 8
    exact h.2.1
theorem shows_item {i : Int} (h1 : 1 ≤ i) (h3 : i ≤ 3) : Shows (.int i) 2 := by
  have : i = 1 ∨ i = 2 ∨ i = 3 := by omega
  rcases this with rfl | rfl | rfl <;> exact ⟨by decide +kernel, by decide +kernel, by decide +kernel, by decide +kernel⟩
theorem shows_vv : ∀ v : Vv, v.good → v.top ≤ 3 → Shows v.t (12 * v.size)
  | .item i, g, h => (shows_item g h).le (by simp only [Vv.size]; omega)
  | .app1 z a, g, h => by
    have := ((ShowsL.nil.cons (shows_vv a g.2 h)).cons (shows_nm g.1)).tup
    simp only [Vv.t, Vv.size] at *
    exact this.le (by omega)
  | .app2 z a b, g, h => by
    have ta : a.top ≤ 3 := by simp only [Vv.top] at h; split at h <;> omega
    have tb : b.top ≤ 3 := by simp only [Vv.top] at h; split at h <;> omega
    have := (((ShowsL.nil.cons (shows_vv b g.2.2 tb)).cons (shows_vv a g.2.1 ta)).cons (shows_nm g.1)).tup
    simp only [Vv.t, Vv.size] at *
    exact this.le (by omega)
theorem repr_T {t : T} {w : Nat} {C : CH} {Q : Kv} (s : Shows t w) (hw : w ≤ 40000) (hd : t.p.depth ≤ 350) (hq : Q (.str t.p.shown) C) : oRepr [t.d] C Q := by
  have hl := PyData.shown_le 8 (Nat.le_refl _) t.p s.short
  have hw' := s.wt
  have hsl : (2000000 : Nat) ≤ sizeLine := by decide
  refine ⟨_, _, rfl, t.snap C, s.can, ?_, by omega, hq⟩
  omega
noncomputable def tailB : List CS := match restB with
  | _ :: _ :: _ :: _ :: _ :: _ :: _ :: _ :: r => r
  | _ => []
theorem top_pos : ∀ v : Vv, v.good → 1 ≤ v.top
  | .item i, g => g
  | .app1 z a, g => top_pos a g.2
  | .app2 z a b, g => by
    have := top_pos a g.2.1
    have := top_pos b g.2.2
    simp only [Vv.top]
    split <;> omega
theorem size_le : ∀ (r : Nat) (v : Vv), Good r v → v.size + 1 ≤ 2 ^ (r + 1)
  | r, .item i, g => by
    have : 2 ^ 1 ≤ 2 ^ (r + 1) := Nat.pow_le_pow_right (by decide) (by omega)
    simp only [Vv.size]; omega
  | r, .app1 z a, g => by
    obtain ⟨_, k, rfl, ga⟩ := good_app1.mp g
    have := size_le k a ga
    have e : 2 ^ (k + 1 + 1) = 2 ^ (k + 1) * 2 := Nat.pow_succ _ _
    simp only [Vv.size]; omega
  | r, .app2 z a b, g => by
    obtain ⟨_, k, rfl, ga, gb⟩ := good_app2.mp g
    have := size_le k a ga
    have := size_le k b gb
    have e : 2 ^ (k + 1 + 1) = 2 ^ (k + 1) * 2 := Nat.pow_succ _ _
    simp only [Vv.size]; omega
theorem rest_tail {n : Nat} {u : U} {C C3 : CH} {ex : Kxs} {D0 : EndsC} {q : Int × Int} {s3 : Option D} (ho : UOk C u) (hm : measU 4 u = some q) (S6 : Sub C C3) (hq : ∀ C', Sub C C' → D0.rt (.bl true) C') :
    rdSs (GG (n + 19)) ex tailB D0 [some u.d, some (.tup [.int q.1, .int q.2]), some (.bl true), s3, none, none] C3 := by
  simp only [tailB, restB, b__law_right]
  rw [rdSs_cons]
  simp_arith []
  refine told_text (n := n + 7) rfl (ho.sub S6) (fun _ v gv ed => ?_) fun z => (by rw [hm] at z; cases z)
  have big := big5
  have so : PyData.strOk (mkS (tx v)) = true := so_iff.mpr (by rw [tl_mkS]; exact tx_so gv)
  have ts := tx_short gv
  rw [rdSs_cons]
  simp_arith []
  rw [rdSs_cons]
  simp_arith [GG_call]
  rw [ed]
  refine law_text_ok 4 (n + 13) v C3 _ _ gv (by decide) ?_
  rw [oEqN_strI so so]
  rw [show (id (decide (mkS (tx v) = mkS (tx v)))) = true by simp]
  simp_arith []
  have done : ∀ v', rdP 4 (mkS (tx v)).cps.toList = some (v', []) → v' = v := fun v' h => by
    have := rdP_complete v 4 [] gv ends_nil
    rw [List.append_nil] at this
    rw [tl_mkS, this] at h
    cases h
    rfl
  refine read_value_ok (n := n + 12) (by rw [mkS_len]; omega) so (fun v' h => ?_) fun h => ?_
  · rw [done v' h]
    have sh := shows_vv v gv.1 gv.2.1
    have sz := size_le 4 v gv
    have dp : v.t.p.depth ≤ 4 := meas_depth 4 v.t _ (meas_vv 4 v gv.1 gv.2.2 gv.2.1)
    refine repr_T sh (by omega) (by omega) ?_
    refine repr_T sh (by omega) (by omega) ?_
    rw [oEqN_strI sh.so sh.so]
    rw [show (id (decide (v.t.p.shown = v.t.p.shown))) = true by simp]
    exact hq _ S6
  · exact absurd (by have := rdP_complete v 4 [] gv ends_nil; rw [List.append_nil] at this; rw [tl_mkS]; exact this) (h v)
theorem meas4_le {u : U} {q : Int × Int} (h : measU 4 u = some q) : q.1 ≤ 4 := by
  obtain ⟨v, g, e, eh, et⟩ := vv_of 4 u q h
  rw [← eh]
  exact g.2.2
theorem shw_int {i : Int} (h0 : 0 ≤ i) (h4 : i ≤ 4) : Shw (.int i) (.int i) := by
  have : i = 0 ∨ i = 1 ∨ i = 2 ∨ i = 3 ∨ i = 4 := by omega
  rcases this with e | e | e | e | e <;> subst e <;> exact ⟨fun C => .int _, by decide +kernel, by decide +kernel, by decide +kernel, by decide +kernel⟩
set_option maxHeartbeats 2000000 in
theorem rest_good {n : Nat} {u : U} {C : CH} {ex : Kxs} {D0 : EndsC} {q : Int × Int} (ho : UOk C u) (hm : measU 4 u = some q) (hq : ∀ C', Sub C C' → D0.rt (.bl true) C') :
    rdSs (GG (n + 19)) ex restB D0 [some u.d, some (.tup [.int q.1, .int q.2]), some (.bl true), none, none, none] C := by
  simp only [restB, b__law_right]
  rw [rdSs_cons]
  simp_arith [oLst]
  refine told_height (n := n + 9) rfl ho (fun q' h => ?_) fun h => (by rw [hm] at h; cases h)
  cases (hm.symm.trans h)
  intro p hp
  rw [rdSs_cons]
  simp_arith []
  refine ⟨isLst_of cup_same, ?_⟩
  refine told_heightK (n := n + 9) rfl (ho.sub (sub_new hp)) (fun q' h => ?_) fun h => (by rw [hm] at h; cases h)
  cases (hm.symm.trans h)
  refine oAppend_at cup_same (show 1 < sizeLine by decide) ?_
  rw [cup_cup]
  show rdSs _ _ _ _ _ (cup C p (.lst [.int q.1, .int q.1]))
  rw [rdSs_cons]
  simp_arith []
  refine repr_same cup_same (shw_int (measU_nn _ _ _ hm) (meas4_le hm)) fun C2 s2 => ?_
  refine ⟨false, rfl, ?_⟩
  rw [if_neg Bool.false_ne_true, rdSs_cons]
  have S2 : Sub C C2 := fun a o e => s2 a o (cup_old hp e)
  simp_arith [oLst]
  refine told_need1 (n := n + 8) rfl (ho.sub S2) ?_
  intro p3 hp3
  rw [rdSs_cons]
  simp_arith []
  refine ⟨isLst_of cup_same, ?_⟩
  have S3 := S2.trans (sub_new (o := .lst [lvA u 1]) hp3)
  refine told_need2 (n := n + 8) rfl (ho.sub S3) ?_
  refine oAppend_at cup_same (show 1 < sizeLine by decide) ?_
  rw [cup_cup]
  rw [rdSs_cons]
  simp_arith []
  have S4 : Sub C (cup C2 p3 (.lst ([lvA u 1] ++ [lvA u 2]))) := S2.trans (sub_new hp3)
  refine ⟨isLst_of cup_same, ?_⟩
  refine told_need3 (n := n + 8) rfl (ho.sub S4) ?_
  refine oAppend_at cup_same (show 2 < sizeLine by decide) ?_
  rw [cup_cup]
  rw [rdSs_cons]
  simp_arith []
  have S5 : Sub C (cup C2 p3 (.lst ([lvA u 1] ++ [lvA u 2] ++ [lvA u 3]))) := S2.trans (sub_new hp3)
  refine ⟨isLst_of cup_same, ?_⟩
  refine told_need4 (n := n + 8) rfl (ho.sub S5) ?_
  refine oAppend_at cup_same (show 3 < sizeLine by decide) ?_
  rw [cup_cup]
  rw [rdSs_cons]
  simp_arith []
  have i11 : decide ((1 : Int) ≤ 1) = true := by decide
  have i12 : decide ((1 : Int) ≤ 2) = true := by decide
  have i13 : decide ((1 : Int) ≤ 3) = true := by decide
  have i21 : decide ((2 : Int) ≤ 1) = false := by decide
  have i22 : decide ((2 : Int) ≤ 2) = true := by decide
  have i23 : decide ((2 : Int) ≤ 3) = true := by decide
  have i31 : decide ((3 : Int) ≤ 1) = false := by decide
  have i32 : decide ((3 : Int) ≤ 2) = false := by decide
  have i33 : decide ((3 : Int) ≤ 3) = true := by decide
  obtain ⟨q1, q2⟩ := q
  obtain ⟨v, gv, ev0, eh, et⟩ := vv_of 4 u _ hm
  have tail : ∀ C3, Sub C C3 → rdSs (GG (n + 19)) ex tailB D0 [some u.d, some (.tup [.int q1, .int q2]), some (.bl true), some (.ref p3), none, none] C3 := fun C3 S6 => rest_tail (n := n) (q := (q1, q2)) ho hm S6 hq
  simp only [tailB, restB, b__law_right] at tail
  have h12 : q2 = 1 ∨ q2 = 2 ∨ q2 = 3 := by
    have a := top_pos v gv.1
    have b := gv.2.1
    simp only at et
    omega
  rcases h12 with e | e | e <;> subst e
  · have l1 : lvA u 1 = .non := by unfold lvA; rw [hm]; rfl
    have l2 : lvA u 2 = .non := by unfold lvA; rw [hm]; rfl
    have l3 : lvA u 3 = .non := by unfold lvA; rw [hm]; rfl
    simp only [l1, l2, l3, List.cons_append, List.nil_append]
    simp_arith [cLc, iSeq, lcL, wipe3, cYes, List.cons_append, List.nil_append, i11, i12, i13]
    intro p4 hp4
    refine four_ne (cup_old hp4 cup_same) cup_same .non .non .non .non (by decide +kernel) (by decide +kernel) ?_
    refine ⟨false, rfl, ?_⟩
    rw [if_neg Bool.false_ne_true]
    exact tail _ ((S2.trans (sub_new hp3)).trans (sub_new hp4))
  · have l1 : lvA u 1 = refu := by unfold lvA; rw [hm]; rfl
    have l2 : lvA u 2 = .non := by unfold lvA; rw [hm]; rfl
    have l3 : lvA u 3 = .non := by unfold lvA; rw [hm]; rfl
    simp only [l1, l2, l3, List.cons_append, List.nil_append]
    simp_arith [cLc, iSeq, lcL, wipe3, cYes, List.cons_append, List.nil_append, i21, i22, i23]
    intro p4 hp4
    refine four_ne (cup_old hp4 cup_same) cup_same (.str _) .non .non .non (by decide +kernel) (by decide +kernel) ?_
    refine ⟨false, rfl, ?_⟩
    rw [if_neg Bool.false_ne_true]
    exact tail _ ((S2.trans (sub_new hp3)).trans (sub_new hp4))
  · have l1 : lvA u 1 = refu := by unfold lvA; rw [hm]; rfl
    have l2 : lvA u 2 = refu := by unfold lvA; rw [hm]; rfl
    have l3 : lvA u 3 = .non := by unfold lvA; rw [hm]; rfl
    simp only [l1, l2, l3, List.cons_append, List.nil_append]
    simp_arith [cLc, iSeq, lcL, wipe3, cYes, List.cons_append, List.nil_append, i31, i32, i33]
    intro p4 hp4
    refine four_ne (cup_old hp4 cup_same) cup_same (.str _) (.str _) .non .non (by decide +kernel) (by decide +kernel) ?_
    refine ⟨false, rfl, ?_⟩
    rw [if_neg Bool.false_ne_true]
    exact tail _ ((S2.trans (sub_new hp3)).trans (sub_new hp4))
/-- every matter is judged right -/
theorem law_right_U {N k : Nat} {u : U} {C : CH} {Q : Kv} {E : Kx} (hN : k + 20 ≤ N) (hk : 4 ≤ k) (ho : UOk C u) (hd : Dp k u) (hq : Q (.bl true) C) : W N i__law_right [u.d] C Q E := by
  obtain ⟨n, rfl⟩ : ∃ n, N = n + 20 := ⟨N - 20, by omega⟩
  rw [W__law_right]
  have eb : b__law_right = [(b__law_right.getD 0 .never), (b__law_right.getD 1 .never)] ++ restB := rfl
  unfold b__law_right
  rw [rdSs_cons]
  simp_arith [GG_call]
  refine law_sizes_V (N := n + 19) (by omega) ho hd ?_
  rw [rdSs_cons]
  have fin : ∀ (C1 : CH), Sub C C1 → ∃ C', Sub C' C1 ∧ Q (.bl true) C' := fun C1 s => ⟨C, s, hq⟩
  have bad := fun (s1 : Option D) (h : measU 4 u = none) => rest_bad (n := n) (ex := exN E) (D0 := endN Q) (s1 := s1) ho h (fun C1 s => fin C1 s)
  have good := fun (q : Int × Int) (h : measU 4 u = some q) => rest_good (n := n) (ex := exN E) (D0 := endN Q) ho h (fun C1 s => fin C1 s)
  simp only [restB, b__law_right, endN] at bad good
  cases hm : measU k u with
  | none =>
    have h4 : measU 4 u = none := by
      cases e : measU 4 u with
      | none => rfl
      | some q => rw [measU_up 4 u q e k hk] at hm; cases hm
    simp_arith [measD]
    exact bad _ h4
  | some q =>
    simp_arith [measD]
    by_cases h : q.1 ≤ 4
    · rw [decide_eq_true h]
      exact good q (measU_down k u q hm 4 h)
    · rw [decide_eq_false h]
      refine bad _ ?_
      cases e : measU 4 u with
      | none => rfl
      | some q' =>
        have := measU_up 4 u q' e k hk
        rw [hm] at this
        cases this
        exact absurd (meas4_le e) h
/-- a thing drawn: matter of a depth at most k -/
noncomputable def Mat (k : Nat) (C : CH) (d : D) : Prop := ∃ u, d = u.d ∧ UOk C u ∧ Dp k u
theorem Mat.sub {k : Nat} {C C' : CH} {d : D} (h : Mat k C d) (s : Sub C C') : Mat k C' d := let ⟨u, e, a, b⟩ := h; ⟨u, e, a.sub s, b⟩
theorem Dp_up : ∀ {k : Nat} {u : U}, Dp k u → Dp (k + 1) u
  | 0, .tup us, h => h.elim
  | k + 1, .tup us, h => fun u hu => Dp_up (h u hu)
  | 0, .non, _ => trivial
  | 0, .bl _, _ => trivial
  | 0, .int _, _ => trivial
  | 0, .str _, _ => trivial
  | 0, .lst _, _ => trivial
  | 0, .dic _, _ => trivial
  | _ + 1, .non, _ => trivial
  | _ + 1, .bl _, _ => trivial
  | _ + 1, .int _, _ => trivial
  | _ + 1, .str _, _ => trivial
  | _ + 1, .lst _, _ => trivial
  | _ + 1, .dic _, _ => trivial
theorem Dp_le {k m : Nat} {u : U} (h : Dp k u) (hm : k ≤ m) : Dp m u := by
  obtain ⟨j, rfl⟩ : ∃ j, m = k + j := ⟨m - k, by omega⟩
  clear hm
  induction j with
  | zero => exact h
  | succ j ih => exact Dp_up ih
theorem Mat.up {k m : Nat} {C : CH} {d : D} (h : Mat k C d) (hm : k ≤ m) : Mat m C d := let ⟨u, e, a, b⟩ := h; ⟨u, e, a, Dp_le b hm⟩
theorem mat_non {k : Nat} {C : CH} : Mat k C .non := ⟨.non, rfl, .non, by cases k <;> trivial⟩
theorem mat_bl {k : Nat} {C : CH} {b : Bool} : Mat k C (.bl b) := ⟨.bl b, rfl, .bl b, by cases k <;> trivial⟩
theorem mat_int {k : Nat} {C : CH} {i : Int} : Mat k C (.int i) := ⟨.int i, rfl, .int i, by cases k <;> trivial⟩
theorem mat_str {k : Nat} {C : CH} {z : Str} (h1 : z.length ≤ sizeLine) (h2 : PyData.strOk z = true) : Mat k C (.str z) := ⟨.str z, rfl, .str z h1 h2, by cases k <;> trivial⟩
theorem mat_lst {k : Nat} {C : CH} {p : Addr} {xs : List D} (h : C p = some (.lst xs)) : Mat k C (.ref p) := ⟨.lst p, rfl, .lst p xs h, by cases k <;> trivial⟩
theorem mat_dic {k : Nat} {C : CH} {p : Addr} {xs : List (L2.Key × D)} (h : C p = some (.dic xs)) : Mat k C (.ref p) := ⟨.dic p, rfl, .dic p xs h, by cases k <;> trivial⟩
theorem mat_tup {k : Nat} {C : CH} : ∀ {ds : List D}, ds.length ≤ 1000 → (∀ d ∈ ds, Mat k C d) → Mat (k + 1) C (.tup ds) := fun {ds} hl h => by
  have go : ∀ ds : List D, (∀ d ∈ ds, Mat k C d) → ∃ us : List U, ds = U.ds us ∧ (∀ u ∈ us, UOk C u ∧ Dp k u) := by
    intro ds
    induction ds with
    | nil => exact fun _ => ⟨[], rfl, fun _ h => nomatch h⟩
    | cons d ds ih =>
      intro h
      obtain ⟨u, e, a, b⟩ := h d List.mem_cons_self
      obtain ⟨us, e2, hu⟩ := ih fun d hd => h d (List.mem_cons_of_mem _ hd)
      refine ⟨u :: us, by rw [e, e2]; rfl, fun x hx => ?_⟩
      rcases List.mem_cons.mp hx with z | hx
      · rw [z]; exact ⟨a, b⟩
      · exact hu x hx
  obtain ⟨us, e, hu⟩ := go ds h
  subst e
  exact ⟨.tup us, rfl, .tup us (by rw [U.ds_length] at hl; exact hl) fun u h => (hu u h).1, fun u h => (hu u h).2⟩
theorem mat_right {N k : Nat} {d : D} {C : CH} {Q : Kv} {E : Kx} (hN : k + 20 ≤ N) (hk : 4 ≤ k) (h : Mat k C d) (hq : Q (.bl true) C) : W N i__law_right [d] C Q E := by
  obtain ⟨u, e, a, b⟩ := h
  rw [e]
  exact law_right_U hN hk a b hq
/-- matter of depth at most k, its tuples of length at most b -/
inductive Mt (b : Nat) (C : CH) : Nat → D → Prop
  | non {k : Nat} : Mt b C k .non
  | bl {k : Nat} (t : Bool) : Mt b C k (.bl t)
  | int {k : Nat} (i : Int) : Mt b C k (.int i)
  | str {k : Nat} (z : Str) (h1 : z.length ≤ sizeLine) (h2 : PyData.strOk z = true) : Mt b C k (.str z)
  | tup {k : Nat} {ds : List D} (hl : ds.length ≤ b) (h : ∀ d ∈ ds, Mt b C k d) : Mt b C (k + 1) (.tup ds)
  | lst {k : Nat} (p : Addr) (xs : List D) (h : C p = some (.lst xs)) : Mt b C k (.ref p)
  | dic {k : Nat} (p : Addr) (xs : List (L2.Key × D)) (h : C p = some (.dic xs)) : Mt b C k (.ref p)
theorem Mt.mat {b k : Nat} {C : CH} {d : D} (hb : b ≤ 1000) (h : Mt b C k d) : Mat k C d := by
  induction h with
  | non => exact mat_non
  | bl t => exact mat_bl
  | int i => exact mat_int
  | str z h1 h2 => exact mat_str h1 h2
  | tup hl h ih => exact mat_tup (by omega) ih
  | lst p xs h => exact mat_lst h
  | dic p xs h => exact mat_dic h
theorem Mt.up {b c k m : Nat} {C C' : CH} {d : D} (h : Mt b C k d) (hb : b ≤ c) (hm : k ≤ m) (hs : Sub C C') : Mt c C' m d := by
  induction h generalizing m with
  | non => exact .non
  | bl t => exact .bl t
  | int i => exact .int i
  | str z h1 h2 => exact .str z h1 h2
  | tup hl h ih =>
    obtain ⟨j, rfl⟩ : ∃ j, m = j + 1 := ⟨m - 1, by omega⟩
    exact .tup (by omega) fun d hd => ih d hd (by omega)
  | lst p xs h => exact .lst p xs (hs _ _ h)
  | dic p xs h => exact .dic p xs (hs _ _ h)
theorem Mt.sub {b k : Nat} {C C' : CH} {d : D} (h : Mt b C k d) (hs : Sub C C') : Mt b C' k d := h.up (Nat.le_refl _) (Nat.le_refl _) hs
theorem Mt.items {b k : Nat} {C : CH} {ds : List D} (h : Mt b C k (.tup ds)) : ds.length ≤ b ∧ ∃ j, k = j + 1 ∧ ∀ d ∈ ds, Mt b C j d := by
  cases h with
  | tup hl h => exact ⟨hl, _, rfl, h⟩
theorem Mt.tup1 {b k : Nat} {C : CH} {d : D} (hb : 1 ≤ b) (h : Mt b C k d) : Mt b C (k + 1) (.tup [d]) := .tup hb fun e he => by cases List.mem_singleton.mp he; exact h
theorem strs_ok {b k : Nat} {C : CH} {z : Str} (h : (decide (z.length ≤ 1000) && PyData.strOk z) = true) : Mt b C k (.str z) := by
  simp only [Bool.and_eq_true, decide_eq_true_eq] at h
  exact .str z (Nat.le_trans h.1 (by decide)) h.2
theorem law_odd_str {n N k b : Nat} {C0 C : CH} {s : Addr} {z : Str} {Q : Kv} {E : Kx} (hb : 1 ≤ b) (hk : 1 ≤ k) (h : St C0 C s (N + 1)) (hq : ∀ d C1 C', Sub C0 C1 → Mt b C1 k d → St C1 C' s N → Q d C') : W (n + 5) i__law_odd [.ref s, .str z] C Q E := by
  rw [W__law_odd]
  unfold b__law_odd
  rw [rdSs_cons]
  simp_arith [GG_kit]
  rw [rdSs_cons]
  simp_arith [oLst]
  refine fun p1 h1 => ⟨by decide, fun p2 h2 => ?_⟩
  rw [rdSs_cons]
  simp_arith [GG_call]
  have a1 := h.alloc (o := .lst [.str (Str.ofString "a")]) h1
  generalize hL : [D.str (Str.ofString ""), _, _, _, _, _, _, _, _, _, _, _, _, _] = L at *
  have a2 := a1.alloc (o := .lst L) h2
  refine pick_ok (n := n + 1) a2 cup_same (by rw [← hL]; show 1 ≤ 14; decide) (by rw [← hL]; show 14 < 1000000; decide) fun d C' hd h' => ?_
  have e1 : cup (cup C0 p1 (.lst [.str (Str.ofString "a")])) p2 (.lst L) p1 = some (.lst [.str (Str.ofString "a")]) := cup_old (a1.no h2) cup_same
  refine ⟨C', Sub.refl, hq d _ C' ((sub_new (h.no h1)).trans (sub_new (a1.no h2))) ?_ h'⟩
  obtain ⟨j, rfl⟩ : ∃ j, k = j + 1 := ⟨k - 1, by omega⟩
  subst hL
  simp only [List.mem_cons, List.not_mem_nil, or_false] at hd
  rcases hd with e | e | e | e | e | e | e | e | e | e | e | e | e | e <;> subst e
  all_goals first
    | exact .non
    | exact .int _
    | exact .bl _
    | exact .lst _ _ e1
    | (refine strs_ok ?_; decide +kernel)
    | (refine .tup1 hb ?_; refine strs_ok ?_; decide +kernel)
theorem cutD_mem {ds : List D} {lo hi : Option Int} {d : D} (h : d ∈ cutD ds lo hi) : d ∈ ds := List.mem_of_mem_drop (List.mem_of_mem_take h)
theorem cutD_len {ds : List D} {lo hi : Option Int} : (cutD ds lo hi).length ≤ ds.length := by
  unfold cutD
  rw [List.length_take, List.length_drop]; omega
theorem cutD_len1 {ds : List D} : (cutD ds none (some 1)).length ≤ 1 := by
  unfold cutD HT.sIx
  rw [List.length_take]
  simp; omega
theorem odd_tup {n N k b : Nat} {C0 C : CH} {s : Addr} {ds : List D} {Q : Kv} {E : Kx} (hb : 2 ≤ b) (hb9 : b ≤ 900) (hm : Mt b C0 (k + 1) (.tup ds)) (h : St C0 C s (N + 1)) (hq : ∀ d C1 C', Sub C0 C1 → Mt (b + 1) C1 (k + 2) d → St C1 C' s N → Q d C') : W (n + 5) i__law_odd [.ref s, .tup ds] C Q E := by
  rw [W__law_odd]
  unfold b__law_odd
  rw [rdSs_cons]
  simp_arith [GG_kit]
  rw [rdSs_cons]
  simp_arith [GG_kit]
  rw [rdSs_cons]
  simp_arith [oLst, oSl, cDic, oList]
  have big := big5
  intro p1 h1
  have a1 := h.alloc (o := .lst ds) h1
  obtain ⟨hl, _, rfl, hi⟩ : ds.length ≤ b ∧ ∃ j, k = j ∧ ∀ d ∈ ds, Mt b C0 j d := by
    obtain ⟨hl, j, e, hi⟩ := hm.items
    exact ⟨hl, j, by omega, hi⟩
  have c1 : (cutD ds none (some 1)).length ≤ 1 := cutD_len1
  refine ⟨by omega, by omega, ?_⟩
  simp_arith [cPrs]
  refine ⟨[(.inr "f", .int 1)], rfl, rfl, by decide, fun p2 h2 p3 h3 => ?_⟩
  have a2 := a1.alloc (o := .dic (dicOf [(.inr "f", .int 1)])) h2
  generalize hL : [D.ref p1, _, _, _, _, _, _, _] = L at *
  have a3 := a2.alloc (o := .lst L) h3
  rw [rdSs_cons]
  simp_arith [oLst, oSl, GG_call]
  refine ⟨by omega, fun p4 h4 => ?_⟩
  generalize hM : [D.tup (cutD ds none (some 2)), _, _] = M at *
  have a4 := a3.alloc (o := .lst M) h4
  refine ⟨L, M, cup_old h4 cup_same, cup_same, ?_, fun p5 h5 => ?_⟩
  · rw [← hL, ← hM]; show 8 + 3 ≤ sizeLine; omega
  have a5 := a4.alloc (o := .lst (L ++ M)) h5
  refine pick_ok (n := n + 1) a5 cup_same (by rw [← hL]; simp) (by rw [← hL, ← hM]; show 11 < 1000000; decide) fun d C' hd h' => ?_
  refine ⟨C', Sub.refl, hq d _ C' (((((sub_new (h.no h1)).trans (sub_new (a1.no h2))).trans (sub_new (a2.no h3))).trans (sub_new (a3.no h4))).trans (sub_new (a4.no h5))) ?_ h'⟩
  have e1 : cup (cup (cup (cup (cup C0 p1 (.lst ds)) p2 (.dic (dicOf [(.inr "f", .int 1)]))) p3 (.lst L)) p4 (.lst M)) p5 (.lst (L ++ M)) p1 = some (.lst ds) := cup_old (a4.no h5) (cup_old (a3.no h4) (cup_old (a2.no h3) (cup_old (a1.no h2) cup_same)))
  have e2 : cup (cup (cup (cup (cup C0 p1 (.lst ds)) p2 (.dic (dicOf [(.inr "f", .int 1)]))) p3 (.lst L)) p4 (.lst M)) p5 (.lst (L ++ M)) p2 = some (.dic (dicOf [(.inr "f", .int 1)])) := cup_old (a4.no h5) (cup_old (a3.no h4) (cup_old (a2.no h3) cup_same))
  have su : Sub C0 (cup (cup (cup (cup (cup C0 p1 (.lst ds)) p2 (.dic (dicOf [(.inr "f", .int 1)]))) p3 (.lst L)) p4 (.lst M)) p5 (.lst (L ++ M))) := ((((sub_new (h.no h1)).trans (sub_new (a1.no h2))).trans (sub_new (a2.no h3))).trans (sub_new (a3.no h4))).trans (sub_new (a4.no h5))
  generalize cup (cup (cup (cup (cup C0 p1 (.lst ds)) p2 (.dic (dicOf [(.inr "f", .int 1)]))) p3 (.lst L)) p4 (.lst M)) p5 (.lst (L ++ M)) = CC at *
  have base : Mt (b + 1) CC (k + 1) (.tup ds) := hm.up (by omega) (by omega) su
  have tp : ∀ es : List D, es.length ≤ b + 1 → (∀ e ∈ es, e ∈ ds ∨ e = .int 1 ∨ e = .tup ds) → Mt (b + 1) CC (k + 2) (.tup es) := fun es hl2 he => .tup hl2 fun e hm2 => by
    rcases he e hm2 with h | rfl | rfl
    · exact (hi e h).up (by omega) (by omega) su
    · exact .int _
    · exact base
  subst hL hM
  simp only [List.cons_append, List.nil_append, List.mem_cons, List.not_mem_nil, or_false] at hd
  have cl := fun lo hi => cutD_len (ds := ds) (lo := lo) (hi := hi)
  rcases hd with e | e | e | e | e | e | e | e | e | e | e <;> subst e
  · exact .lst _ _ e1
  · exact tp _ (by have := cl none (some (-1)); omega) fun e he => .inl (cutD_mem he)
  · exact tp _ (by simp; omega) fun e he => by
      rcases List.mem_append.mp he with h | h
      · exact .inl h
      · exact .inr (.inl (List.mem_singleton.mp h))
  · exact tp _ (by rw [List.length_append]; omega) fun e he => by
      rcases List.mem_append.mp he with h | h
      · exact .inl (cutD_mem h)
      · exact .inl h
  · exact tp _ (by simp) fun e he => nomatch he
  · exact tp _ (by have := cl (some 1) none; omega) fun e he => .inl (cutD_mem he)
  · exact tp _ (by simp) fun e he => .inr (.inr (List.mem_singleton.mp he))
  · exact .dic _ _ e2
  · exact tp _ (by have := cl none (some 2); omega) fun e he => .inl (cutD_mem he)
  · exact tp _ (by rw [List.length_append]; simp; omega) fun e he => by
      rcases List.mem_append.mp he with h | h
      · exact .inl (cutD_mem h)
      · simp only [List.mem_cons, List.not_mem_nil, or_false] at h
        rcases h with h | h
        · exact .inr (.inr h)
        · exact .inr (.inl h)
  · refine strs_ok ?_; decide +kernel
noncomputable def othB : List CS := [(b__law_odd.getD 2 .never), (b__law_odd.getD 3 .never)]
theorem odd_tail {n N k b : Nat} {C0 C : CH} {s : Addr} {x : D} {Q : Kv} {E : Kx} (hb : 2 ≤ b) (hk : 1 ≤ k) (h : St C0 C s (N + 1)) (hq : ∀ d C1 C', Sub C0 C1 → Mt b C1 k d → St C1 C' s N → Q d C') : rdSs (GG (n + 4)) (exN E) othB (endN Q) [some (.ref s), some x, none] C := by
  simp only [othB, b__law_odd, List.getD_cons_zero, List.getD_cons_succ]
  rw [rdSs_cons]
  simp_arith [oLst, cDic0, oI2]
  refine ⟨by unfold L2.CPow; decide, fun p1 h1 p2 h2 p3 h3 => ⟨by have := big5; omega, fun p4 h4 => ?_⟩⟩
  have a1 := h.alloc (o := .lst []) h1
  have a2 := a1.alloc (o := .dic []) h2
  have a3 := a2.alloc (o := .lst [.int 1]) h3
  generalize hL : [D.int 0, _, _, _, _, _, _, _, _, _, _, _, _, _, _, _, _, _, _] = L at *
  have a4 := a3.alloc (o := .lst L) h4
  rw [rdSs_cons]
  simp_arith [GG_call]
  refine pick_ok (n := n + 1) a4 cup_same (by rw [← hL]; simp) (by rw [← hL]; show 19 < 1000000; decide) fun d C' hd h' => ?_
  have e1 : cup (cup (cup (cup C0 p1 (.lst [])) p2 (.dic [])) p3 (.lst [.int 1])) p4 (.lst L) p1 = some (.lst []) := cup_old (a3.no h4) (cup_old (a2.no h3) (cup_old (a1.no h2) cup_same))
  have e2 : cup (cup (cup (cup C0 p1 (.lst [])) p2 (.dic [])) p3 (.lst [.int 1])) p4 (.lst L) p2 = some (.dic []) := cup_old (a3.no h4) (cup_old (a2.no h3) cup_same)
  have e3 : cup (cup (cup (cup C0 p1 (.lst [])) p2 (.dic [])) p3 (.lst [.int 1])) p4 (.lst L) p3 = some (.lst [.int 1]) := cup_old (a3.no h4) cup_same
  have su : Sub C0 (cup (cup (cup (cup C0 p1 (.lst [])) p2 (.dic [])) p3 (.lst [.int 1])) p4 (.lst L)) := (((sub_new (h.no h1)).trans (sub_new (a1.no h2))).trans (sub_new (a2.no h3))).trans (sub_new (a3.no h4))
  refine ⟨C', Sub.refl, hq d _ C' su ?_ h'⟩
  generalize cup (cup (cup (cup C0 p1 (.lst [])) p2 (.dic [])) p3 (.lst [.int 1])) p4 (.lst L) = CC at *
  obtain ⟨j, rfl⟩ : ∃ j, k = j + 1 := ⟨k - 1, by omega⟩
  subst hL
  simp only [List.mem_cons, List.not_mem_nil, or_false] at hd
  have st : ∀ z : Str, (decide (z.length ≤ 1000) && PyData.strOk z) = true → Mt b CC (j + 1) (.str z) := fun z h => strs_ok h
  have st' : ∀ z : Str, (decide (z.length ≤ 1000) && PyData.strOk z) = true → Mt b CC j (.str z) := fun z h => strs_ok h
  rcases hd with e | e | e | e | e | e | e | e | e | e | e | e | e | e | e | e | e | e | e <;> subst e
  all_goals first
    | exact .non
    | exact .int _
    | exact .bl _
    | exact .lst _ _ e1
    | exact .dic _ _ e2
    | exact .lst _ _ e3
    | exact st _ (by decide +kernel)
    | exact .tup (Nat.zero_le _) (fun e he => nomatch he)
    | exact .tup1 (by omega) (.int _)
    | exact .tup hb (by
        intro e he
        simp only [List.mem_cons, List.not_mem_nil, or_false] at he
        rcases he with rfl | rfl
        · exact st' _ (by decide +kernel)
        · first | exact .bl _ | exact .int _)
theorem odd_oth {n N k b : Nat} {C0 C : CH} {s : Addr} {x : D} {Q : Kv} {E : Kx} {T : String} (ht : tyC C x = some (.inl T)) (hT : T ∈ ["NoneType", "bool", "int", "list", "dict"]) (hb : 2 ≤ b) (hk : 1 ≤ k) (h : St C0 C s (N + 1)) (hq : ∀ d C1 C', Sub C0 C1 → Mt b C1 k d → St C1 C' s N → Q d C') : W (n + 5) i__law_odd [.ref s, x] C Q E := by
  have tl := odd_tail (n := n) (x := x) (Q := Q) (E := E) hb hk h hq
  simp only [othB, b__law_odd, List.getD_cons_zero, List.getD_cons_succ, endN] at tl
  rw [W__law_odd]
  unfold b__law_odd
  simp only [List.mem_cons, List.not_mem_nil, or_false] at hT
  rcases hT with rfl | rfl | rfl | rfl | rfl <;> rw [rdSs_cons] <;> simp_arith [GG_kit, ht] <;> rw [rdSs_cons] <;> simp_arith [GG_kit, ht] <;> exact tl
theorem law_spoilt_ok : ∀ (k n N b : Nat) (C0 C : CH) (s : Addr) (d : D) (Q : Kv) (E : Kx), 2 ≤ b → b ≤ 900 → Mt b C0 k d → St C0 C s (N + 2 * k + 2) → (∀ d' C1 C', Sub C0 C1 → Mt (b + 1) C1 (k + 1) d' → St C1 C' s N → Q d' C') → W (n + k + 6) i__law_spoilt [.ref s, d] C Q E
  | k, n, N, b, C0, C, s, d, Q, E, hb, hb9, hm, h, hq => by
    rw [W__law_spoilt]
    unfold b__law_spoilt
    rw [rdSs_cons]
    have oth : ∀ T, tyC C d = some (.inl T) → T ∈ ["NoneType", "bool", "int", "list", "dict"] → W (n + k + 5) i__law_odd [.ref s, d] C (fun d C' => ∃ C1, Sub C1 C' ∧ Q d C1) (fun y C' => ∃ C1, Sub C1 C' ∧ E y C1) := fun T ht hT =>
      odd_oth (n := n + k) (N := N) (k := k + 1) (b := b + 1) ht hT (by omega) (by omega) (h.le (by omega)) fun d' C1 C' hs hm' h' => ⟨C', Sub.refl, hq d' C1 C' hs hm' h'⟩
    cases hm with
    | @tup j ds hl hi =>
      cases ds with
      | nil =>
        simp_arith [GG_kit, oNeU, BEq.rfl]
        rw [rdSs_cons]
        simp_arith [oNeU, BEq.rfl]
        exact ⟨C, Sub.refl, hq _ C0 C Sub.refl (.int _) (h.le (by omega))⟩
      | cons x ds =>
        have z0 : (ds.length + 1 == 0) = false := by simp
        have fin : ∀ C1, St C0 C1 s (N + 2 * (j + 1) + 1) → rdSs (GG (n + (j + 1) + 5)) (exN E) [b__law_spoilt.getD 1 .never] (endN Q) [some (.ref s), some (.tup (x :: ds)), none] C1 := fun C1 h1 => by
          simp only [b__law_spoilt, List.getD_cons_zero, List.getD_cons_succ]
          rw [rdSs_cons]
          simp_arith [oNeU, GG_call, z0]
          exact odd_tup (n := n + (j + 1)) (N := N) (k := j) (b := b) hb hb9 (.tup hl hi) (h1.le (by omega)) fun d' C1 C' hs hm' h' => ⟨C', Sub.refl, hq d' C1 C' hs hm' h'⟩
        simp only [b__law_spoilt, List.getD_cons_zero, List.getD_cons_succ, endN] at fin
        simp_arith [GG_kit, oNeU, GG_call, z0]
        refine take_ok (n := n + (j + 1) + 3) (N := N + 2 * (j + 1) + 1) h (by decide) (by decide) fun q C1 q0 q4 h1 => ?_
        simp_arith []
        by_cases hq0 : 0 < q
        · rw [if_pos (decide_eq_true hq0), rdSs_cons]
          simp_arith [GG_call]
          have hl' := hl
          rw [List.length_cons] at hl'
          refine take_ok (n := n + (j + 1) + 3) (N := N + 2 * (j + 1)) h1 (by omega) (by omega) fun a C2 a0 a1 h2 => ?_
          rw [rdSs_cons]
          simp_arith [GG_call, oSl]
          obtain ⟨m, rfl⟩ : ∃ m : Nat, a = m := ⟨a.toNat, by omega⟩
          have hm : m < (x :: ds).length := by rw [List.length_cons]; omega
          refine ⟨(x :: ds)[m], atI_nat (List.getElem?_eq_getElem hm), ?_⟩
          rw [show n + (j + 1) + 5 = n + j + 6 by omega]
          refine law_spoilt_ok j n N b C0 C2 s _ _ _ hb hb9 (hi _ (List.getElem_mem hm)) (h2.le (by omega)) fun d' C3 C4 hs hm' h' => ?_
          have l1 : (cutD (x :: ds) none (some (m : Int))).length = m := by
            unfold cutD; rw [HT.sIx_none, HT.sIx_nat, List.length_take, List.length_drop]; omega
          have l2 : (cutD (x :: ds) (some ((m : Int) + 1)) none).length + (m + 1) = (x :: ds).length := by
            rw [show ((m : Int) + 1) = ((m + 1 : Nat) : Int) by push_cast; rfl]
            unfold cutD; rw [HT.sIx_none, HT.sIx_nat, List.length_take, List.length_drop]; omega
          have big := big5
          have l3 : (cutD (x :: ds) none (some (m : Int)) ++ [d'] ++ cutD (x :: ds) (some ((m : Int) + 1)) none).length = (x :: ds).length := by
            rw [List.length_append, List.length_append, l1, List.length_singleton]; omega
          refine ⟨by omega, by rw [List.length_append] at l3; omega, C4, Sub.refl, hq _ C3 C4 hs (.tup (by omega) fun e he => ?_) h'⟩
          rcases List.mem_append.mp he with he | he
          · rcases List.mem_append.mp he with he | he
            · exact (hi e (cutD_mem he)).up (by omega) (by omega) hs
            · cases List.mem_singleton.mp he; exact hm'
          · exact (hi e (cutD_mem he)).up (by omega) (by omega) hs
        · rw [if_neg (by simp [hq0])]
          exact fin C1 h1
    | lst p xs hp =>
      have ht : tyC C (.ref p) = some (.inl "list") := tyC_lst (h.subC _ _ hp)
      have o := oth _ ht (by decide)
      have hp2 := h.subC _ _ hp
      simp_arith [GG_kit, ht]
      rw [rdSs_cons]
      simp_arith [oNeU, hp2, GG_call]
      exact o
    | dic p xs hp =>
      have hp2 := h.subC _ _ hp
      have ht : tyC C (.ref p) = some (.inl "dict") := by unfold L3.tyC; simp only [hp2]
      have o := oth _ ht (by decide)
      simp_arith [GG_kit, ht]
      rw [rdSs_cons]
      simp_arith [oNeU, hp2, GG_call]
      exact o
    | str z h1 h2 =>
      simp_arith [GG_kit]
      rw [rdSs_cons]
      simp_arith [oNeU, GG_call]
      exact law_odd_str (n := n + k) (N := N) (k := k + 1) (b := b + 1) (by omega) (by omega) (h.le (by omega)) fun d' C1 C' hs hm' h' => ⟨C', Sub.refl, hq d' C1 C' hs hm' h'⟩
    | non =>
      have o := oth "NoneType" rfl (by decide)
      simp_arith [GG_kit]
      rw [rdSs_cons]
      simp_arith [oNeU, GG_call]
      exact o
    | bl t =>
      have o := oth "bool" rfl (by decide)
      simp_arith [GG_kit]
      rw [rdSs_cons]
      simp_arith [oNeU, GG_call]
      exact o
    | int i =>
      have o := oth "int" rfl (by decide)
      simp_arith [GG_kit]
      rw [rdSs_cons]
      simp_arith [oNeU, GG_call]
      exact o
theorem good_str {k b : Nat} {C : CH} {z : Str} (h : goodNm z) : Mt b C k (.str z) := .str z (Nat.le_trans h.2.1 (by decide)) h.2.2
theorem good_mt {C : CH} : ∀ (v : Vv) (r : Nat), Good r v → Mt 3 C r v.t.d
  | .item i, r, g => .int i
  | .app1 z a, r, g => by
    obtain ⟨gz, k, rfl, ga⟩ := good_app1.mp g
    rw [app1_d]
    exact .tup (by simp) fun d hd => by
      simp only [List.mem_cons, List.not_mem_nil, or_false] at hd
      rcases hd with rfl | rfl
      · exact good_str gz
      · exact good_mt a k ga
  | .app2 z a c, r, g => by
    obtain ⟨gz, k, rfl, ga, gc⟩ := good_app2.mp g
    rw [app2_d]
    exact .tup (by simp) fun d hd => by
      simp only [List.mem_cons, List.not_mem_nil, or_false] at hd
      rcases hd with rfl | rfl | rfl
      · exact good_str gz
      · exact good_mt a k ga
      · exact good_mt c k gc
noncomputable def lawB : List CS := match b_law with
  | _ :: .forS _ _ _ b :: _ => b
  | _ => []
noncomputable def chgB : List CS := match lawB with
  | _ :: .forS _ _ _ b :: _ => b
  | _ => []
theorem chg_loop {n K : Nat} {ex : Kxs} {D0 : EndsC} {s : Addr} {y0 y2 : Option L3.D} :
    ∀ (ds : List L3.D) (k b : Nat) (C0 : CH) (d : L3.D) (y6 : Option L3.D) (C : CH), (∀ (d' : L3.D) (y6 : Option L3.D) C1 C', Sub C0 C1 → Mt (b + ds.length) C1 (k + ds.length) d' → St C1 C' s K → D0.nx [y0, some (.ref s), y2, none, none, some d', y6, none, none, none] C') →
      2 ≤ b → b + ds.length ≤ 900 → k + ds.length ≤ 20 → Mt b C0 k d → St C0 C s (K + 100 * ds.length) →
      forL (hT (.nm 6)) (rdSs (GG (n + 26)) ex chgB) (fun _ => True) D0 ds [y0, some (.ref s), y2, none, none, some d, y6, none, none, none] C
  | [], k, b, C0, d, y6, C, hK, hb, hb9, hk, hm, h => ⟨trivial, hK d y6 C0 C Sub.refl hm h⟩
  | x :: ds, k, b, C0, d, y6, C, hK, hb, hb9, hk, hm, h => by
    rw [List.length_cons] at hb9 hk h hK
    refine ⟨trivial, _, rfl, ?_⟩
    simp only [chgB, lawB, b_law]
    rw [rdSs_cons]
    simp_arith [GG_call]
    rw [show n + 26 = (n + 20 - k) + k + 6 by omega]
    refine law_spoilt_ok k (n + 20 - k) (K + 100 * ds.length) b C0 C s d _ _ hb (by omega) hm (h.le (by omega)) fun d' C1 C' hs hm' h' => ?_
    rw [show (n + 20 - k) + k + 6 = n + 26 by omega]
    exact chg_loop ds (k + 1) (b + 1) C1 d' _ C' (fun d2 y6 C2 C3 hs2 hm2 h2 => hK d2 y6 C2 C3 (hs.trans hs2) (by rw [show b + (ds.length + 1) = b + 1 + ds.length by omega, show k + (ds.length + 1) = k + 1 + ds.length by omega]; exact hm2) h2) (by omega) (by omega) (by omega) hm' h'
theorem pick_of {xs : List Int} {m : Nat} (hx : (xs.all fun i => decide (0 ≤ i ∧ i ≤ m)) = true) {d : L3.D} (h : d ∈ xs.map D.int) : ∃ r : Nat, d = .int (r : Nat) ∧ r ≤ m := by
  obtain ⟨i, hi, rfl⟩ := List.mem_map.mp h
  have := List.all_eq_true.mp hx i hi
  simp only [decide_eq_true_eq] at this
  exact ⟨i.toNat, by rw [Int.toNat_of_nonneg this.1], by omega⟩
theorem law_loop {n K : Nat} {E : Kx} {D0 : EndsC} {C0 : CH} {s : Addr} {y0 : Option L3.D}
    (hK : ∀ (y2 y5 y6 : Option L3.D) C', St C0 C' s K → D0.nx [y0, some (.ref s), y2, none, none, y5, y6, none, none, none] C') :
    ∀ (ds : List L3.D) (y2 y5 y6 : Option L3.D) (C : CH), St C0 C s (K + 3000 * ds.length) →
      forL (hT (.nm 2)) (rdSs (GG (n + 40)) (exN E) lawB) (fun _ => True) D0 ds [y0, some (.ref s), y2, none, none, y5, y6, none, none, none] C
  | [], y2, y5, y6, C, h => ⟨trivial, hK y2 y5 y6 C h⟩
  | d0 :: ds, y2, y5, y6, C, h => by
    rw [List.length_cons] at h
    refine ⟨trivial, _, rfl, ?_⟩
    simp only [lawB, b_law]
    rw [rdSs_cons]
    simp_arith [GG_call, oLst]
    intro p hp
    have h1 := (h.le (M := K + 3000 * ds.length + 2900 + 1) (by omega)).alloc (o := .lst ([0, 1, 2, 3, 4, 4, 5, 6].map D.int)) hp
    refine pick_ok (n := n + 37) h1 cup_same (by decide) (by decide) fun d C1 hd1 h2 => ?_
    have h2' := h2.drop (sub_new (h.no hp))
    obtain ⟨r, rfl, hr6⟩ := pick_of (m := 6) (by decide) hd1
    have hb : bud r ≤ 1524 := by
      unfold bud
      have : 2 ^ r ≤ 2 ^ 6 := Nat.pow_le_pow_right (by decide) hr6
      omega
    rw [show n + 40 = (n + 34 - r) + r + 6 by omega]
    refine thing_ok r (n + 34 - r) (K + 3000 * ds.length + 401) C0 C1 s _ _ (h2'.le (by omega)) fun v C2 g h3 => ?_
    rw [show (n + 34 - r) + r + 6 = n + 40 by omega]
    rw [rdSs_cons]
    simp_arith [sFor, iRg1, GG_call, oLst]
    intro q hqn
    have h4 := h3.alloc (o := .lst ([0, 0, 0, 1, 2].map D.int)) hqn
    refine pick_ok (n := n + 37) h4 cup_same (by decide) (by decide) fun d C3 hd3 h5 => ?_
    have h5' := h5.drop (sub_new (h3.no hqn))
    obtain ⟨m, rfl, hm2⟩ := pick_of (m := 2) (by decide) hd3
    refine ⟨_, rfl, by omega, by omega, ?_⟩
    have em : ((m : Nat) : Int).toNat = m := by omega
    have lm : (rngD 0 m).length = m := by simp [rngD]
    rw [em]
    refine (show forL (hT (.nm 6)) (rdSs (GG (n + 40)) (exN E) chgB) (fun _ => True) _ (rngD 0 m) [y0, some (.ref s), some d0, none, none, some v.t.d, y6, none, none, none] C3 from
      chg_loop (n := n + 14) (K := K + 3000 * ds.length) (rngD 0 m) r 3 C0 _ _ C3 (fun d' y6' C4 C5 hs hm' h6 => ?_) (by decide) (by omega) (by omega) (good_mt v r g) (h5'.le (by omega)))
    dsimp only
    rw [rdSs_cons]
    simp_arith [GG_call]
    rw [lm] at hm'
    refine mat_right (k := 8) (by omega) (by decide) (((hm'.mat (by omega)).sub h6.subC).up (by omega)) ⟨true, rfl, ?_⟩
    rw [if_neg (by decide)]
    exact law_loop hK ds _ _ _ C5 (h6.drop hs)
noncomputable def nestB : List CS := match b_law with
  | _ :: _ :: _ :: .forS _ _ _ b :: _ => b
  | _ => []
noncomputable def greatB : List CS := match b_law with
  | _ :: _ :: _ :: _ :: .forS _ _ _ b :: _ => b
  | _ => []
theorem nest_loop {n : Nat} {ex : Kxs} {D0 : EndsC} {y0 y1 y2 y4 y5 y6 y9 : Option L3.D} :
    ∀ (ds : List L3.D) (k : Nat) (x : L3.D) (p : Addr) (xs : List L3.D) (y3 : Option L3.D) (C : CH), (∀ (x' : L3.D) (p' : Addr) (xs' : List L3.D) (y3 : Option L3.D) C', Sub C C' → Mt 2 C' (k + ds.length) x' → C' p' = some (.lst xs') → D0.nx [y0, y1, y2, y3, y4, y5, y6, some x', some (.ref p'), y9] C') →
      Mt 2 C k x → C p = some (.lst xs) →
      forL (hT (.nm 3)) (rdSs (GG n) ex nestB) (fun _ => True) D0 ds [y0, y1, y2, y3, y4, y5, y6, some x, some (.ref p), y9] C
  | [], k, x, p, xs, y3, C, hK, hm, hp => ⟨trivial, hK x p xs y3 C Sub.refl hm hp⟩
  | d :: ds, k, x, p, xs, y3, C, hK, hm, hp => by
    rw [List.length_cons] at hK
    refine ⟨trivial, _, rfl, ?_⟩
    simp only [nestB, b_law]
    rw [rdSs_cons]
    simp_arith [oLst]
    intro q hq
    refine ⟨_, _, ⟨rfl, rfl⟩, nest_loop ds (k + 1) _ q [.ref p] _ _ (fun x' p' xs' y3' C' hs hm' hp' => hK x' p' xs' y3' C' ((sub_new hq).trans hs) (by rw [show k + (ds.length + 1) = k + 1 + ds.length by omega]; exact hm') hp') ?_ cup_same⟩
    exact .tup (by simp) fun e he => by
      simp only [List.mem_cons, List.not_mem_nil, or_false] at he
      rcases he with rfl | rfl
      · refine strs_ok ?_; decide +kernel
      · exact hm.sub (sub_new hq)
theorem great_loop {n : Nat} {ex : Kxs} {D0 : EndsC} {y0 y1 y2 y4 y5 y6 y7 y8 : Option L3.D} {C : CH} (hK : ∀ (i : Int) y3, D0.nx [y0, y1, y2, y3, y4, y5, y6, y7, y8, some (.int i)] C) :
    ∀ (ds : List L3.D) (a : Nat) (i : Int) (y3 : Option L3.D), i.natAbs < 2 ^ a → a + 110 * ds.length ≤ 100000 →
      forL (hT (.nm 3)) (rdSs (GG n) ex greatB) (fun _ => True) D0 ds [y0, y1, y2, y3, y4, y5, y6, y7, y8, some (.int i)] C
  | [], a, i, y3, ha, hl => ⟨trivial, hK i y3⟩
  | d :: ds, a, i, y3, ha, hl => by
    rw [List.length_cons] at hl
    refine ⟨trivial, _, rfl, ?_⟩
    have h10 : ((10 : Int) ^ Int.toNat 33).natAbs < 2 ^ 110 := by decide +kernel
    simp only [greatB, b_law]
    rw [rdSs_cons]
    simp_arith [oI2]
    refine ⟨by unfold L2.CPow; decide, L2.mulx_ok ha h10 (by omega), great_loop hK ds (a + 110) _ _ ?_ (by omega)⟩
    rw [Int.natAbs_mul, Nat.pow_add]
    exact Nat.mul_lt_mul'' ha h10
theorem law_ok : LawTrue prog kit 290 i_law := by
  intro ns hl hb
  show W 290 i_law [.rls (ns.map D.int)] (fun _ => none) (fun d _ => d = .bl true) fun _ _ => False
  rw [W_law]
  unfold b_law
  rw [rdSs_cons]
  simp_arith [GG_call]
  refine begin_ok (n := 288) hl fun s C h => ?_
  have big := big5
  rw [rdSs_cons]
  simp_arith [sFor, iRg1, oMin2, List.length_map]
  refine ⟨_, _, ⟨rfl, rfl⟩, by split <;> omega, by split <;> omega, ?_⟩
  have em : ∃ m : Nat, (4 + if (12 : Int) < (ns.length : Nat) then 12 else ((ns.length : Nat) : Int)).toNat = m ∧ m ≤ 20 := ⟨_, rfl, by split <;> omega⟩
  obtain ⟨m, em, hm⟩ := em
  rw [em]
  have lm : (rngD 0 m).length = m := by simp [rngD]
  refine (show forL (hT (.nm 2)) (rdSs (GG (249 + 40)) (exN fun _ _ => False) lawB) (fun _ => True) _ (rngD 0 m) [some (.rls (ns.map D.int)), some (.ref s), none, none, none, none, none, none, none, none] C from
    law_loop (n := 249) (K := 0) (C0 := fun _ => none) (fun y2 y5 y6 C1 h1 => ?_) _ _ _ _ _ (h.le (by rw [lm]; omega)))
  dsimp only
  rw [rdSs_cons]
  simp_arith [oLst]
  intro q hq
  refine ⟨_, _, _, ⟨rfl, rfl, rfl⟩, ?_⟩
  rw [rdSs_cons]
  simp_arith [sFor, iRg1]
  refine ⟨by decide, by decide, ?_⟩
  have l249 : (rngD 0 249).length = 249 := by simp [rngD]
  refine (show forL (hT (.nm 3)) (rdSs (GG 289) (exN fun _ _ => False) nestB) (fun _ => True) _ (rngD 0 249) [some (.rls (ns.map D.int)), some (.ref s), y2, none, none, y5, y6, some (.int 1), some (.ref q), some (.int 7)] (cup C1 q (.lst [.int 1])) from
    nest_loop (rngD 0 249) 0 _ q _ _ _ (fun x p xs y3 C2 hs hx hp => ?_) (.int _) cup_same)
  rw [l249] at hx
  dsimp only
  rw [rdSs_cons]
  simp_arith [sFor, iRg1]
  refine ⟨by decide, by decide, ?_⟩
  have l120 : (rngD 0 120).length = 120 := by simp [rngD]
  refine (show forL (hT (.nm 3)) (rdSs (GG 289) (exN fun _ _ => False) greatB) (fun _ => True) _ (rngD 0 120) [some (.rls (ns.map D.int)), some (.ref s), y2, y3, none, y5, y6, some x, some (.ref p), some (.int 7)] C2 from
    great_loop (fun i y3 => ?_) (rngD 0 120) 3 7 _ (by decide) (by rw [l120]; decide))
  dsimp only
  rw [rdSs_cons]
  simp_arith [oLst, cDic0]
  intro p1 k1 p2 k2 p3 k3
  refine ⟨by omega, fun p4 k4 => ?_⟩
  generalize hL : [D.non, _, _, _, _, _, _, _, _, _, _, _, _, _, _, _] = L at *
  have s5 : Sub C2 (cup (cup (cup (cup C2 p1 (.lst [])) p2 (.dic [])) p3 (.lst [.str (Str.ofString "f"), .int 1])) p4 (.lst L)) := (((sub_new k1).trans (sub_new k2)).trans (sub_new k3)).trans (sub_new k4)
  have hA : ∀ d ∈ L, Mt 4 (cup (cup (cup (cup C2 p1 (.lst [])) p2 (.dic [])) p3 (.lst [.str (Str.ofString "f"), .int 1])) p4 (.lst L)) 250 d := by
    have e1 : cup (cup (cup (cup C2 p1 (.lst [])) p2 (.dic [])) p3 (.lst [.str (Str.ofString "f"), .int 1])) p4 (.lst L) p1 = some (.lst []) := cup_old k4 (cup_old k3 (cup_old k2 cup_same))
    have e2 : cup (cup (cup (cup C2 p1 (.lst [])) p2 (.dic [])) p3 (.lst [.str (Str.ofString "f"), .int 1])) p4 (.lst L) p2 = some (.dic []) := cup_old k4 (cup_old k3 cup_same)
    have e3 : cup (cup (cup (cup C2 p1 (.lst [])) p2 (.dic [])) p3 (.lst [.str (Str.ofString "f"), .int 1])) p4 (.lst L) p3 = some (.lst [.str (Str.ofString "f"), .int 1]) := cup_old k4 cup_same
    generalize cup (cup (cup (cup C2 p1 (.lst [])) p2 (.dic [])) p3 (.lst [.str (Str.ofString "f"), .int 1])) p4 (.lst L) = CC at *
    have st : ∀ (k : Nat) (z : Str), (decide (z.length ≤ 1000) && PyData.strOk z) = true → Mt 4 CC k (.str z) := fun k z h => strs_ok h
    have f := st 249 (Str.ofString "f") (by decide +kernel)
    intro d hd
    rw [← hL] at hd
    simp only [List.mem_cons, List.not_mem_nil, or_false] at hd
    rcases hd with e | e | e | e | e | e | e | e | e | e | e | e | e | e | e | e <;> subst e
    all_goals first
      | exact .non
      | exact .int _
      | exact .bl _
      | exact .lst _ _ e1
      | exact .dic _ _ e2
      | exact .lst _ _ e3
      | exact st _ _ (by decide +kernel)
      | exact .tup (Nat.zero_le _) (fun e he => nomatch he)
      | exact .tup (by simp) (by
          intro e he
          simp only [List.mem_cons, List.not_mem_nil, or_false] at he
          first
            | (subst he; exact f)
            | (rcases he with rfl | rfl <;> first | exact f | exact .int _)
            | (rcases he with rfl | rfl | rfl | rfl <;> first | exact f | exact .int _))
  have l16 : L.length = 16 := by rw [← hL]; rfl
  have hp4 : cup (cup (cup (cup C2 p1 (.lst [])) p2 (.dic [])) p3 (.lst [.str (Str.ofString "f"), .int 1])) p4 (.lst L) p4 = some (.lst L) := cup_same
  generalize cup (cup (cup (cup C2 p1 (.lst [])) p2 (.dic [])) p3 (.lst [.str (Str.ofString "f"), .int 1])) p4 (.lst L) = C5 at *
  clear hL
  have hx5 := hx.sub s5
  have hp5 := s5 _ _ hp
  rw [rdSs_cons]
  simp_arith [oLst]
  intro p5 k5 p6 k6
  generalize hM : [D.tup [D.str (Str.ofString "f"), D.bl true], _, _, _, _, _, _, _] = M at *
  refine add_lists (xs := L) (ys := M) (cup_old k6 (cup_old k5 hp4)) cup_same (by rw [l16, ← hM]; show 16 + 8 ≤ _; omega) fun p7 k7 => ?_
  have s8 : Sub C5 (cup (cup (cup C5 p5 (.lst [.int 1])) p6 (.lst M)) p7 (.lst (L ++ M))) := ((sub_new k5).trans (sub_new k6)).trans (sub_new k7)
  have e5 : cup (cup (cup C5 p5 (.lst [.int 1])) p6 (.lst M)) p7 (.lst (L ++ M)) p5 = some (.lst [.int 1]) := cup_old k7 (cup_old k6 cup_same)
  have e7 : cup (cup (cup C5 p5 (.lst [.int 1])) p6 (.lst M)) p7 (.lst (L ++ M)) p7 = some (.lst (L ++ M)) := cup_same
  generalize cup (cup (cup C5 p5 (.lst [.int 1])) p6 (.lst M)) p7 (.lst (L ++ M)) = C8 at *
  have hx8 := hx5.sub s8
  have hp8 := s8 _ _ hp5
  have hB : ∀ d ∈ L ++ M, Mt 4 C8 250 d := by
    intro d hd
    rcases List.mem_append.mp hd with hd | hd
    · exact (hA d hd).sub s8
    · have f : ∀ k, Mt 4 C8 k (.str (Str.ofString "f")) := fun k => by refine strs_ok ?_; decide +kernel
      have hn : Mt 4 C8 249 (.tup [.str (Str.ofString "f"), .int 1]) := .tup (by simp) (by
        intro e he
        simp only [List.mem_cons, List.not_mem_nil, or_false] at he
        rcases he with rfl | rfl
        · exact f _
        · exact .int _)
      rw [← hM] at hd
      simp only [List.mem_cons, List.not_mem_nil, or_false] at hd
      rcases hd with e | e | e | e | e | e | e | e <;> subst e
      · exact .tup (by simp) (by
          intro e he
          simp only [List.mem_cons, List.not_mem_nil, or_false] at he
          rcases he with rfl | rfl
          · exact f _
          · exact .bl _)
      · exact .tup (by simp) (by
          intro e he
          simp only [List.mem_cons, List.not_mem_nil, or_false] at he
          rcases he with rfl | rfl | rfl
          · exact f _
          · exact .int _
          · exact .bl _)
      · exact .tup (by simp) (by
          intro e he
          simp only [List.mem_cons, List.not_mem_nil, or_false] at he
          rcases he with rfl | rfl
          · exact f _
          · exact .lst _ _ e5)
      · exact .tup (by simp) (by
          intro e he
          simp only [List.mem_cons, List.not_mem_nil, or_false] at he
          rcases he with rfl | rfl
          · exact hn
          · exact .int _)
      · exact .int _
      · exact .tup (by simp) (by
          intro e he
          simp only [List.mem_cons, List.not_mem_nil, or_false] at he
          rcases he with rfl | rfl
          · exact f _
          · exact .int _)
      · exact hx8.up (by decide) (by decide) Sub.refl
      · exact .lst _ _ hp8
  have lB : (L ++ M).length ≤ 100000 := by rw [List.length_append, l16, ← hM]; show 16 + 8 ≤ 100000; decide
  clear hM
  generalize L ++ M = B at *
  rw [rdSs_cons]
  simp_arith [cLc, iSeq, e7, oLst]
  have eB : B.map (fun d : L3.D => d) = B := List.map_id' B
  rw [← eB] at e7
  rw [← eB]
  refine lcL_if (fun d : L3.D => d) (fun d : L3.D => d) (fun _ => false) (G := fun C => C p7 = some (.lst (B.map (fun d : L3.D => d)))) (C := C8) e7 B (fun d hd => ?_) (by omega) ?_
  · refine ⟨_, rfl, fun Q' hQ => ?_, fun Q' hQ => ?_⟩
    · simp_arith [wipe3, GG_call]
      exact mat_right (k := 250) (by decide) (by decide) ((hB d hd).mat (by decide)) ⟨true, rfl, hQ⟩
    · simp_arith [wipe3]
      exact hQ
  · have none_ : B.filter (fun _ => false) = [] := List.filter_eq_nil_iff.mpr fun _ _ => by decide
    rw [none_]
    intro p8 k8 p9 k9
    refine ts_nil (f := id) (ts := []) (fun _ h => nomatch h) (cup_old k9 cup_same) cup_same ?_
    exact ⟨⟨_, Sub.refl⟩, rfl⟩
end My
namespace My
open PySem L3
open L2 (inClass defArgs defBody defScope)
set_option maxHeartbeats 0 in
theorem all_mk {l : PySem.W.OpenLaw} {w : World} {K : PySem.W.Frag} {h : Heap} {mg : Str → Option Value} {fa C0 C1 C2 f0 f1 f2 f3 f4 f5 f6 f7 f8 f9 f10 f11 f12 f13 f14 f15 f16 f17 f18 f19 f20 f21 f22 f23 f24 f25 : Addr} (X : K.In h) (G : h.Ns mainGlobals mg) (hfa : mg "law" = some (.ref fa))
    {od0 an0 od1 an1 od2 an2 od3 an3 od4 an4 od5 an5 od6 an6 od7 an7 od8 an8 od9 an9 od10 an10 od11 an11 od12 an12 od13 an13 od14 an14 od15 an15 od16 an16 od17 an17 od18 an18 od19 an19 od20 an20 od21 an21 od22 an22 od23 an23 od24 an24 od25 an25 : Option Addr} {sl0 sl1 sl2 sl3 sl4 sl5 sl6 sl7 sl8 sl9 sl10 sl11 sl12 sl13 sl14 sl15 sl16 sl17 sl18 sl19 sl20 sl21 sl22 sl23 sl24 sl25 : Array (Option Value)} {oc0 kV0 dc0 pm0 cd0 ct0 oc1 kV1 dc1 pm1 cd1 ct1 oc2 kV2 dc2 pm2 cd2 ct2 oc3 kV3 dc3 pm3 cd3 ct3 oc4 kV4 dc4 pm4 cd4 ct4 oc5 kV5 dc5 pm5 cd5 ct5 oc6 kV6 dc6 pm6 cd6 ct6 oc7 kV7 dc7 pm7 cd7 ct7 oc8 kV8 dc8 pm8 cd8 ct8 oc9 kV9 dc9 pm9 cd9 ct9 oc10 kV10 dc10 pm10 cd10 ct10 oc11 kV11 dc11 pm11 cd11 ct11 oc12 kV12 dc12 pm12 cd12 ct12 oc13 kV13 dc13 pm13 cd13 ct13 oc14 kV14 dc14 pm14 cd14 ct14 oc15 kV15 dc15 pm15 cd15 ct15 oc16 kV16 dc16 pm16 cd16 ct16 oc17 kV17 dc17 pm17 cd17 ct17 oc18 kV18 dc18 pm18 cd18 ct18 oc19 kV19 dc19 pm19 cd19 ct19 oc20 kV20 dc20 pm20 cd20 ct20 oc21 kV21 dc21 pm21 cd21 ct21 oc22 kV22 dc22 pm22 cd22 ct22 oc23 kV23 dc23 pm23 cd23 ct23 oc24 kV24 dc24 pm24 ct24 oc25 kV25 dc25 pm25 cd25 ct25 : Value} {tk0 tk1 tk2 tk3 tk4 : Tok} {T6 : Addr} {tc6 : Value} {td6 : Option Addr} {tn6 : Nat} {ts6 : Array (Option Value)} {tkd6_0 : Tok} {cc24 : Addr} {PP24 : Addr} {mo24 : Option Addr} {mv24 : Array Value} {ms24 : Array (Option Value)}
    (e0 : PySem.W.nsIn K mainGlobals "LoopError" = some (some (.ref C0)))
    (e1 : PySem.W.nsIn K mainGlobals "NoValue" = some (some (.ref C1)))
    (e2 : PySem.W.nsIn K mainGlobals "NoText" = some (some (.ref C2)))
    (a0 : PySem.W.nsIn K mainGlobals "is_number" = some (some (.ref f0)))
    (l0 : K.lookup f0 = some ⟨oc0, od0, .func (PySem.W.fnOf "is_number" "is_number" (defArgs s0) (defBody s0) (defScope s0) .none kV0 dc0 pm0 an0 cd0 ct0), sl0⟩)
    (c0 : PySem.W.codeIn K cd0 "is_number" = true)
    (k0 : PySem.W.keepIn K (.ref f0) = true)
    (a1 : PySem.W.nsIn K mainGlobals "is_name" = some (some (.ref f1)))
    (l1 : K.lookup f1 = some ⟨oc1, od1, .func (PySem.W.fnOf "is_name" "is_name" (defArgs s1) (defBody s1) (defScope s1) .none kV1 dc1 pm1 an1 cd1 ct1), sl1⟩)
    (c1 : PySem.W.codeIn K cd1 "is_name" = true)
    (k1 : PySem.W.keepIn K (.ref f1) = true)
    (a2 : PySem.W.nsIn K mainGlobals "measured" = some (some (.ref f2)))
    (l2 : K.lookup f2 = some ⟨oc2, od2, .func (PySem.W.fnOf "measured" "measured" (defArgs s2) (defBody s2) (defScope s2) .none kV2 dc2 pm2 an2 cd2 ct2), sl2⟩)
    (c2 : PySem.W.codeIn K cd2 "measured" = true)
    (k2 : PySem.W.keepIn K (.ref f2) = true)
    (a3 : PySem.W.nsIn K mainGlobals "sizes_of" = some (some (.ref f3)))
    (l3 : K.lookup f3 = some ⟨oc3, od3, .func (PySem.W.fnOf "sizes_of" "sizes_of" (defArgs s3) (defBody s3) (defScope s3) .none kV3 dc3 pm3 an3 cd3 ct3), sl3⟩)
    (c3 : PySem.W.codeIn K cd3 "sizes_of" = true)
    (k3 : PySem.W.keepIn K (.ref f3) = true)
    (a4 : PySem.W.nsIn K mainGlobals "height" = some (some (.ref f4)))
    (l4 : K.lookup f4 = some ⟨oc4, od4, .func (PySem.W.fnOf "height" "height" (defArgs s4) (defBody s4) (defScope s4) .none kV4 dc4 pm4 an4 cd4 ct4), sl4⟩)
    (c4 : PySem.W.codeIn K cd4 "height" = true)
    (k4 : PySem.W.keepIn K (.ref f4) = true)
    (a5 : PySem.W.nsIn K mainGlobals "highest" = some (some (.ref f5)))
    (l5 : K.lookup f5 = some ⟨oc5, od5, .func (PySem.W.fnOf "highest" "highest" (defArgs s5) (defBody s5) (defScope s5) .none kV5 dc5 pm5 an5 cd5 ct5), sl5⟩)
    (c5 : PySem.W.codeIn K cd5 "highest" = true)
    (k5 : PySem.W.keepIn K (.ref f5) = true)
    (a6 : PySem.W.nsIn K mainGlobals "need_value" = some (some (.ref f6)))
    (l6 : K.lookup f6 = some ⟨oc6, od6, .func (PySem.W.fnOf "need_value" "need_value" (defArgs s6) (defBody s6) (defScope s6) (.ref T6) kV6 dc6 pm6 an6 cd6 ct6), sl6⟩)
    (t6 : K.lookup T6 = some ⟨tc6, td6, .seq #[(.int 3 tkd6_0)] tn6, ts6⟩)
    (c6 : PySem.W.codeIn K cd6 "need_value" = true)
    (k6 : PySem.W.keepIn K (.ref f6) = true)
    (a7 : PySem.W.nsIn K mainGlobals "text_of" = some (some (.ref f7)))
    (l7 : K.lookup f7 = some ⟨oc7, od7, .func (PySem.W.fnOf "text_of" "text_of" (defArgs s7) (defBody s7) (defScope s7) .none kV7 dc7 pm7 an7 cd7 ct7), sl7⟩)
    (c7 : PySem.W.codeIn K cd7 "text_of" = true)
    (k7 : PySem.W.keepIn K (.ref f7) = true)
    (a8 : PySem.W.nsIn K mainGlobals "value_text" = some (some (.ref f8)))
    (l8 : K.lookup f8 = some ⟨oc8, od8, .func (PySem.W.fnOf "value_text" "value_text" (defArgs s8) (defBody s8) (defScope s8) .none kV8 dc8 pm8 an8 cd8 ct8), sl8⟩)
    (c8 : PySem.W.codeIn K cd8 "value_text" = true)
    (k8 : PySem.W.keepIn K (.ref f8) = true)
    (a9 : PySem.W.nsIn K mainGlobals "name_end" = some (some (.ref f9)))
    (l9 : K.lookup f9 = some ⟨oc9, od9, .func (PySem.W.fnOf "name_end" "name_end" (defArgs s9) (defBody s9) (defScope s9) .none kV9 dc9 pm9 an9 cd9 ct9), sl9⟩)
    (c9 : PySem.W.codeIn K cd9 "name_end" = true)
    (k9 : PySem.W.keepIn K (.ref f9) = true)
    (a10 : PySem.W.nsIn K mainGlobals "read_at" = some (some (.ref f10)))
    (l10 : K.lookup f10 = some ⟨oc10, od10, .func (PySem.W.fnOf "read_at" "read_at" (defArgs s10) (defBody s10) (defScope s10) .none kV10 dc10 pm10 an10 cd10 ct10), sl10⟩)
    (c10 : PySem.W.codeIn K cd10 "read_at" = true)
    (k10 : PySem.W.keepIn K (.ref f10) = true)
    (a11 : PySem.W.nsIn K mainGlobals "read_value" = some (some (.ref f11)))
    (l11 : K.lookup f11 = some ⟨oc11, od11, .func (PySem.W.fnOf "read_value" "read_value" (defArgs s11) (defBody s11) (defScope s11) .none kV11 dc11 pm11 an11 cd11 ct11), sl11⟩)
    (c11 : PySem.W.codeIn K cd11 "read_value" = true)
    (k11 : PySem.W.keepIn K (.ref f11) = true)
    (a12 : PySem.W.nsIn K mainGlobals "_law_begin" = some (some (.ref f12)))
    (l12 : K.lookup f12 = some ⟨oc12, od12, .func (PySem.W.fnOf "_law_begin" "_law_begin" (defArgs s12) (defBody s12) (defScope s12) .none kV12 dc12 pm12 an12 cd12 ct12), sl12⟩)
    (c12 : PySem.W.codeIn K cd12 "_law_begin" = true)
    (k12 : PySem.W.keepIn K (.ref f12) = true)
    (a13 : PySem.W.nsIn K mainGlobals "_law_mixed" = some (some (.ref f13)))
    (l13 : K.lookup f13 = some ⟨oc13, od13, .func (PySem.W.fnOf "_law_mixed" "_law_mixed" (defArgs s13) (defBody s13) (defScope s13) .none kV13 dc13 pm13 an13 cd13 ct13), sl13⟩)
    (c13 : PySem.W.codeIn K cd13 "_law_mixed" = true)
    (k13 : PySem.W.keepIn K (.ref f13) = true)
    (a14 : PySem.W.nsIn K mainGlobals "_law_take" = some (some (.ref f14)))
    (l14 : K.lookup f14 = some ⟨oc14, od14, .func (PySem.W.fnOf "_law_take" "_law_take" (defArgs s14) (defBody s14) (defScope s14) .none kV14 dc14 pm14 an14 cd14 ct14), sl14⟩)
    (c14 : PySem.W.codeIn K cd14 "_law_take" = true)
    (k14 : PySem.W.keepIn K (.ref f14) = true)
    (a15 : PySem.W.nsIn K mainGlobals "_law_pick" = some (some (.ref f15)))
    (l15 : K.lookup f15 = some ⟨oc15, od15, .func (PySem.W.fnOf "_law_pick" "_law_pick" (defArgs s15) (defBody s15) (defScope s15) .none kV15 dc15 pm15 an15 cd15 ct15), sl15⟩)
    (c15 : PySem.W.codeIn K cd15 "_law_pick" = true)
    (k15 : PySem.W.keepIn K (.ref f15) = true)
    (a16 : PySem.W.nsIn K mainGlobals "_law_is_name" = some (some (.ref f16)))
    (l16 : K.lookup f16 = some ⟨oc16, od16, .func (PySem.W.fnOf "_law_is_name" "_law_is_name" (defArgs s16) (defBody s16) (defScope s16) .none kV16 dc16 pm16 an16 cd16 ct16), sl16⟩)
    (c16 : PySem.W.codeIn K cd16 "_law_is_name" = true)
    (k16 : PySem.W.keepIn K (.ref f16) = true)
    (a17 : PySem.W.nsIn K mainGlobals "_law_name" = some (some (.ref f17)))
    (l17 : K.lookup f17 = some ⟨oc17, od17, .func (PySem.W.fnOf "_law_name" "_law_name" (defArgs s17) (defBody s17) (defScope s17) .none kV17 dc17 pm17 an17 cd17 ct17), sl17⟩)
    (c17 : PySem.W.codeIn K cd17 "_law_name" = true)
    (k17 : PySem.W.keepIn K (.ref f17) = true)
    (a18 : PySem.W.nsIn K mainGlobals "_law_thing" = some (some (.ref f18)))
    (l18 : K.lookup f18 = some ⟨oc18, od18, .func (PySem.W.fnOf "_law_thing" "_law_thing" (defArgs s18) (defBody s18) (defScope s18) .none kV18 dc18 pm18 an18 cd18 ct18), sl18⟩)
    (c18 : PySem.W.codeIn K cd18 "_law_thing" = true)
    (k18 : PySem.W.keepIn K (.ref f18) = true)
    (a19 : PySem.W.nsIn K mainGlobals "_law_text" = some (some (.ref f19)))
    (l19 : K.lookup f19 = some ⟨oc19, od19, .func (PySem.W.fnOf "_law_text" "_law_text" (defArgs s19) (defBody s19) (defScope s19) .none kV19 dc19 pm19 an19 cd19 ct19), sl19⟩)
    (c19 : PySem.W.codeIn K cd19 "_law_text" = true)
    (k19 : PySem.W.keepIn K (.ref f19) = true)
    (a20 : PySem.W.nsIn K mainGlobals "_law_odd" = some (some (.ref f20)))
    (l20 : K.lookup f20 = some ⟨oc20, od20, .func (PySem.W.fnOf "_law_odd" "_law_odd" (defArgs s20) (defBody s20) (defScope s20) .none kV20 dc20 pm20 an20 cd20 ct20), sl20⟩)
    (c20 : PySem.W.codeIn K cd20 "_law_odd" = true)
    (k20 : PySem.W.keepIn K (.ref f20) = true)
    (a21 : PySem.W.nsIn K mainGlobals "_law_spoilt" = some (some (.ref f21)))
    (l21 : K.lookup f21 = some ⟨oc21, od21, .func (PySem.W.fnOf "_law_spoilt" "_law_spoilt" (defArgs s21) (defBody s21) (defScope s21) .none kV21 dc21 pm21 an21 cd21 ct21), sl21⟩)
    (c21 : PySem.W.codeIn K cd21 "_law_spoilt" = true)
    (k21 : PySem.W.keepIn K (.ref f21) = true)
    (a22 : PySem.W.nsIn K mainGlobals "_law_sizes" = some (some (.ref f22)))
    (l22 : K.lookup f22 = some ⟨oc22, od22, .func (PySem.W.fnOf "_law_sizes" "_law_sizes" (defArgs s22) (defBody s22) (defScope s22) .none kV22 dc22 pm22 an22 cd22 ct22), sl22⟩)
    (c22 : PySem.W.codeIn K cd22 "_law_sizes" = true)
    (k22 : PySem.W.keepIn K (.ref f22) = true)
    (a23 : PySem.W.nsIn K mainGlobals "_law_told" = some (some (.ref f23)))
    (l23 : K.lookup f23 = some ⟨oc23, od23, .func (PySem.W.fnOf "_law_told" "_law_told" (defArgs s23) (defBody s23) (defScope s23) .none kV23 dc23 pm23 an23 cd23 ct23), sl23⟩)
    (c23 : PySem.W.codeIn K cd23 "_law_told" = true)
    (k23 : PySem.W.keepIn K (.ref f23) = true)
    (a24 : PySem.W.nsIn K mainGlobals "_law_right" = some (some (.ref f24)))
    (l24 : K.lookup f24 = some ⟨oc24, od24, .func (PySem.W.fnOf "_law_right" "_law_right" (defArgs s24) (defBody s24) (defScope s24) .none kV24 dc24 pm24 an24 (.ref cc24) ct24), sl24⟩)
    (mc24 : K.lookup cc24 = some ⟨.type "code", mo24, .fields mv24, ms24⟩)
    (mp24 : (mv24[11]? : Option Value) = some (.ref PP24))
    (mh24 : PySem.W.codeHdIn K cc24 PP24 = true)
    (mn24 : K.lookup PP24 = none)
    (my24 : h.get? PP24 = some { cls := .none, data := .fields #[] })
    (c24 : PySem.W.codeIn K (.ref cc24) "_law_right" = true)
    (k24 : PySem.W.keepIn K (.ref f24) = true)
    (a25 : PySem.W.nsIn K mainGlobals "law" = some (some (.ref f25)))
    (l25 : K.lookup f25 = some ⟨oc25, od25, .func (PySem.W.fnOf "law" "law" (defArgs s25) (defBody s25) (defScope s25) .none kV25 dc25 pm25 an25 cd25 ct25), sl25⟩)
    (c25 : PySem.W.codeIn K cd25 "law" = true)
    (k25 : PySem.W.keepIn K (.ref f25) = true)
    (gb0 : PySem.W.nsIn K mainGlobals "LETTERS" = some (some (.str "abcdefghijklmnopqrstuvwxyz" tk0)))
    (gb1 : PySem.W.nsIn K mainGlobals "MOST_HEIGHT" = some (some (.int 4 tk1)))
    (gb2 : PySem.W.nsIn K mainGlobals "MOST_LEVEL" = some (some (.int 3 tk2)))
    (gb3 : PySem.W.nsIn K mainGlobals "MOST_SIGNS" = some (some (.int 8 tk3)))
    (gb4 : PySem.W.nsIn K mainGlobals "SIGNS" = some (some (.str "abcdefghijklmnopqrstuvwxyz0123456789" tk4)))
    (z0 : PySem.W.nsIn K mainGlobals "all" = some none)
    (z1 : PySem.W.nsIn K mainGlobals "bool" = some none)
    (z2 : PySem.W.nsIn K mainGlobals "int" = some none)
    (z3 : PySem.W.nsIn K mainGlobals "isinstance" = some none)
    (z4 : PySem.W.nsIn K mainGlobals "len" = some none)
    (z5 : PySem.W.nsIn K mainGlobals "list" = some none)
    (z6 : PySem.W.nsIn K mainGlobals "max" = some none)
    (z7 : PySem.W.nsIn K mainGlobals "min" = some none)
    (z8 : PySem.W.nsIn K mainGlobals "range" = some none)
    (z9 : PySem.W.nsIn K mainGlobals "repr" = some none)
    (z10 : PySem.W.nsIn K mainGlobals "str" = some none)
    (z11 : PySem.W.nsIn K mainGlobals "tuple" = some none)
    (xa1 : PySem.W.excIn K C1 [.type "ValueError", .type "Exception", .type "BaseException", .type "object"] "ValueError.__new__" = true)
    (xb1 : PySem.W.keepIn K (.ref C1) = true)
    (xc1 : PySem.W.subIn K (.ref C1) (.type "BaseException") = some true)
    (xd1 : PySem.W.typeIn K (.ref C1) = some (.type "type"))
    (xa2 : PySem.W.excIn K C2 [.type "ValueError", .type "Exception", .type "BaseException", .type "object"] "ValueError.__new__" = true)
    (xb2 : PySem.W.keepIn K (.ref C2) = true)
    (xc2 : PySem.W.subIn K (.ref C2) (.type "BaseException") = some true)
    (xd2 : PySem.W.typeIn K (.ref C2) = some (.type "type"))
    (xm_NoValue_0 : PySem.W.exmOne K (.ref C0) (.ref C1) = some false)
    (xm_NoValue_1 : PySem.W.exmOne K (.ref C1) (.ref C1) = some true)
    (xm_NoValue_2 : PySem.W.exmOne K (.ref C2) (.ref C1) = some false)
    (yg1 : PySem.W.findIn K (.ref C1) "__getattribute__" = some (some (.builtin "BaseException.__getattribute__")))
    (yk1 : PySem.W.findIn K (.ref C1) "__getattr__" = some none)
    (ys1 : PySem.W.subIn K (.ref C1) (.type "BaseException") = some true)
    (yd1 : PySem.W.hasDictIn K C1 = true)
    (ya1 : PySem.W.findIn K (.ref C1) "__class__" = some (some (.builtin "object.__class__")))
    (yn1 : PySem.W.specialIn K (.builtin "object.__class__") "__get__" = some (some (.builtin "getset_descriptor.__get__")))
    (yt1 : PySem.W.takesIn K (.builtin "object.__class__") = some true)
    (ym1 : PySem.W.mroIn K C1 (.type "object") = some true)
    (kix0 : PySem.W.kitOne K (.ref C1) (.ref C0) = some true)
    (kix1 : PySem.W.kitOne K (.ref C1) (.ref C2) = some false)
    (S : LawTrue prog kit 290 25) : ∃ (fd : FuncData) (TB : List LamR), (∀ (s : Shared) (v : Value), BindsTo s fd ⟨[v], []⟩ [("_law_script", v)]) ∧ (∀ r ∈ TB, h.get? r.P = some { cls := .none, data := .fields #[] } ∧ K.lookup r.P = none ∧ PySem.W.codeHdIn K r.c r.P = true) ∧ ∀ base : Heap, K.In base → base.Ns mainGlobals mg → (∀ r ∈ TB, LamX.TabB base mg r.c r.P) → FnOkG l.prog w K mg base (L2.CX l.prog w) (290 + 10) fa fd ["_law_script"] (spL K TB) := by
  have e := hfa.symm.trans (PySem.W.mg_of X G a25)
  cases e
  let fd0 : FuncData := PySem.W.fnOf "is_number" "is_number" (defArgs s0) (defBody s0) (defScope s0) .none kV0 dc0 pm0 an0 cd0 ct0
  let fd1 : FuncData := PySem.W.fnOf "is_name" "is_name" (defArgs s1) (defBody s1) (defScope s1) .none kV1 dc1 pm1 an1 cd1 ct1
  let fd2 : FuncData := PySem.W.fnOf "measured" "measured" (defArgs s2) (defBody s2) (defScope s2) .none kV2 dc2 pm2 an2 cd2 ct2
  let fd3 : FuncData := PySem.W.fnOf "sizes_of" "sizes_of" (defArgs s3) (defBody s3) (defScope s3) .none kV3 dc3 pm3 an3 cd3 ct3
  let fd4 : FuncData := PySem.W.fnOf "height" "height" (defArgs s4) (defBody s4) (defScope s4) .none kV4 dc4 pm4 an4 cd4 ct4
  let fd5 : FuncData := PySem.W.fnOf "highest" "highest" (defArgs s5) (defBody s5) (defScope s5) .none kV5 dc5 pm5 an5 cd5 ct5
  let fd6 : FuncData := PySem.W.fnOf "need_value" "need_value" (defArgs s6) (defBody s6) (defScope s6) (.ref T6) kV6 dc6 pm6 an6 cd6 ct6
  let fd7 : FuncData := PySem.W.fnOf "text_of" "text_of" (defArgs s7) (defBody s7) (defScope s7) .none kV7 dc7 pm7 an7 cd7 ct7
  let fd8 : FuncData := PySem.W.fnOf "value_text" "value_text" (defArgs s8) (defBody s8) (defScope s8) .none kV8 dc8 pm8 an8 cd8 ct8
  let fd9 : FuncData := PySem.W.fnOf "name_end" "name_end" (defArgs s9) (defBody s9) (defScope s9) .none kV9 dc9 pm9 an9 cd9 ct9
  let fd10 : FuncData := PySem.W.fnOf "read_at" "read_at" (defArgs s10) (defBody s10) (defScope s10) .none kV10 dc10 pm10 an10 cd10 ct10
  let fd11 : FuncData := PySem.W.fnOf "read_value" "read_value" (defArgs s11) (defBody s11) (defScope s11) .none kV11 dc11 pm11 an11 cd11 ct11
  let fd12 : FuncData := PySem.W.fnOf "_law_begin" "_law_begin" (defArgs s12) (defBody s12) (defScope s12) .none kV12 dc12 pm12 an12 cd12 ct12
  let fd13 : FuncData := PySem.W.fnOf "_law_mixed" "_law_mixed" (defArgs s13) (defBody s13) (defScope s13) .none kV13 dc13 pm13 an13 cd13 ct13
  let fd14 : FuncData := PySem.W.fnOf "_law_take" "_law_take" (defArgs s14) (defBody s14) (defScope s14) .none kV14 dc14 pm14 an14 cd14 ct14
  let fd15 : FuncData := PySem.W.fnOf "_law_pick" "_law_pick" (defArgs s15) (defBody s15) (defScope s15) .none kV15 dc15 pm15 an15 cd15 ct15
  let fd16 : FuncData := PySem.W.fnOf "_law_is_name" "_law_is_name" (defArgs s16) (defBody s16) (defScope s16) .none kV16 dc16 pm16 an16 cd16 ct16
  let fd17 : FuncData := PySem.W.fnOf "_law_name" "_law_name" (defArgs s17) (defBody s17) (defScope s17) .none kV17 dc17 pm17 an17 cd17 ct17
  let fd18 : FuncData := PySem.W.fnOf "_law_thing" "_law_thing" (defArgs s18) (defBody s18) (defScope s18) .none kV18 dc18 pm18 an18 cd18 ct18
  let fd19 : FuncData := PySem.W.fnOf "_law_text" "_law_text" (defArgs s19) (defBody s19) (defScope s19) .none kV19 dc19 pm19 an19 cd19 ct19
  let fd20 : FuncData := PySem.W.fnOf "_law_odd" "_law_odd" (defArgs s20) (defBody s20) (defScope s20) .none kV20 dc20 pm20 an20 cd20 ct20
  let fd21 : FuncData := PySem.W.fnOf "_law_spoilt" "_law_spoilt" (defArgs s21) (defBody s21) (defScope s21) .none kV21 dc21 pm21 an21 cd21 ct21
  let fd22 : FuncData := PySem.W.fnOf "_law_sizes" "_law_sizes" (defArgs s22) (defBody s22) (defScope s22) .none kV22 dc22 pm22 an22 cd22 ct22
  let fd23 : FuncData := PySem.W.fnOf "_law_told" "_law_told" (defArgs s23) (defBody s23) (defScope s23) .none kV23 dc23 pm23 an23 cd23 ct23
  let fd24 : FuncData := PySem.W.fnOf "_law_right" "_law_right" (defArgs s24) (defBody s24) (defScope s24) .none kV24 dc24 pm24 an24 (.ref cc24) ct24
  let fd25 : FuncData := PySem.W.fnOf "law" "law" (defArgs s25) (defBody s25) (defScope s25) .none kV25 dc25 pm25 an25 cd25 ct25
  have W : LawN l.prog w L K mg [C0, C1, C2] [⟨(defScope s24).names, cc24, PP24, ("_law_right" : Str) ++ (".<locals>." : Str) ++ ("<lambda>" : Str)⟩] prog kit [(d0, f0, fd0), (d1, f1, fd1), (d2, f2, fd2), (d3, f3, fd3), (d4, f4, fd4), (d5, f5, fd5), (d6, f6, fd6), (d7, f7, fd7), (d8, f8, fd8), (d9, f9, fd9), (d10, f10, fd10), (d11, f11, fd11), (d12, f12, fd12), (d13, f13, fd13), (d14, f14, fd14), (d15, f15, fd15), (d16, f16, fd16), (d17, f17, fd17), (d18, f18, fd18), (d19, f19, fd19), (d20, f20, fd20), (d21, f21, fd21), (d22, f22, fd22), (d23, f23, fd23), (d24, f24, fd24), (d25, fa, fd25)] := by
    refine ⟨⟨⟨rfl, ⟨⟨_, _, _, _, _, _, _, _, _, _, rfl, l0, c0⟩, k0⟩, ok0⟩, ⟨rfl, ⟨⟨_, _, _, _, _, _, _, _, _, _, rfl, l1, c1⟩, k1⟩, ok1⟩, ⟨rfl, ⟨⟨_, _, _, _, _, _, _, _, _, _, rfl, l2, c2⟩, k2⟩, ok2⟩, ⟨rfl, ⟨⟨_, _, _, _, _, _, _, _, _, _, rfl, l3, c3⟩, k3⟩, ok3⟩, ⟨rfl, ⟨⟨_, _, _, _, _, _, _, _, _, _, rfl, l4, c4⟩, k4⟩, ok4⟩, ⟨rfl, ⟨⟨_, _, _, _, _, _, _, _, _, _, rfl, l5, c5⟩, k5⟩, ok5⟩, ⟨rfl, ⟨⟨_, _, _, _, _, _, _, _, _, _, rfl, l6, c6⟩, k6⟩, ok6⟩, ⟨rfl, ⟨⟨_, _, _, _, _, _, _, _, _, _, rfl, l7, c7⟩, k7⟩, ok7⟩, ⟨rfl, ⟨⟨_, _, _, _, _, _, _, _, _, _, rfl, l8, c8⟩, k8⟩, ok8⟩, ⟨rfl, ⟨⟨_, _, _, _, _, _, _, _, _, _, rfl, l9, c9⟩, k9⟩, ok9⟩, ⟨rfl, ⟨⟨_, _, _, _, _, _, _, _, _, _, rfl, l10, c10⟩, k10⟩, ok10⟩, ⟨rfl, ⟨⟨_, _, _, _, _, _, _, _, _, _, rfl, l11, c11⟩, k11⟩, ok11⟩, ⟨rfl, ⟨⟨_, _, _, _, _, _, _, _, _, _, rfl, l12, c12⟩, k12⟩, ok12⟩, ⟨rfl, ⟨⟨_, _, _, _, _, _, _, _, _, _, rfl, l13, c13⟩, k13⟩, ok13⟩, ⟨rfl, ⟨⟨_, _, _, _, _, _, _, _, _, _, rfl, l14, c14⟩, k14⟩, ok14⟩, ⟨rfl, ⟨⟨_, _, _, _, _, _, _, _, _, _, rfl, l15, c15⟩, k15⟩, ok15⟩, ⟨rfl, ⟨⟨_, _, _, _, _, _, _, _, _, _, rfl, l16, c16⟩, k16⟩, ok16⟩, ⟨rfl, ⟨⟨_, _, _, _, _, _, _, _, _, _, rfl, l17, c17⟩, k17⟩, ok17⟩, ⟨rfl, ⟨⟨_, _, _, _, _, _, _, _, _, _, rfl, l18, c18⟩, k18⟩, ok18⟩, ⟨rfl, ⟨⟨_, _, _, _, _, _, _, _, _, _, rfl, l19, c19⟩, k19⟩, ok19⟩, ⟨rfl, ⟨⟨_, _, _, _, _, _, _, _, _, _, rfl, l20, c20⟩, k20⟩, ok20⟩, ⟨rfl, ⟨⟨_, _, _, _, _, _, _, _, _, _, rfl, l21, c21⟩, k21⟩, ok21⟩, ⟨rfl, ⟨⟨_, _, _, _, _, _, _, _, _, _, rfl, l22, c22⟩, k22⟩, ok22⟩, ⟨rfl, ⟨⟨_, _, _, _, _, _, _, _, _, _, rfl, l23, c23⟩, k23⟩, ok23⟩, ⟨rfl, ⟨⟨_, _, _, _, _, _, _, _, _, _, rfl, l24, c24⟩, k24⟩, ok24⟩, ⟨rfl, ⟨⟨_, _, _, _, _, _, _, _, _, _, rfl, l25, c25⟩, k25⟩, ok25⟩, trivial⟩, ?shape, ?fn, ?cls, ?init, ?own, ?ownL, ?ownB, ?xcl, ?xkit, ?mth, ?glb, ?blt, ?attr, ?kit_, ?kitc, ?exc, ?tch, ?gdc, ?lamD, ?lamS, ?lamN, ?lamU, ?lamM⟩
    case shape => exact ⟨⟨_, rfl, rfl, bindsC_pos (ps := ["thing"]) (len1 fun _ => rfl)⟩, ⟨_, rfl, rfl, bindsC_pos (ps := ["thing"]) (len1 fun _ => rfl)⟩, ⟨_, rfl, rfl, bindsC_pos (ps := ["thing", "room"]) (len2 fun _ _ => rfl)⟩, ⟨_, rfl, rfl, bindsC_pos (ps := ["value"]) (len1 fun _ => rfl)⟩, ⟨_, rfl, rfl, bindsC_N (ks := ["value"]) (ps := ["value"]) (fun {α} us ws => ((ws.drop 0).take 1)) (fun r1 r4 => ((r4.drop 0).take 1)) (fun us ws l1 l2 => match us, ws, l1, l2 with | [], [b0], _, _ => rfl) (fun H ds vs es zs l1 l2 r1 r2 => match ds, l1, es, l2 with | [], _, [_], _ => by cases r1; rcases r2 with _ | ⟨q0, r2⟩; cases r2; exact .cons q0 (.nil))⟩, ⟨_, rfl, rfl, bindsC_pos (ps := ["value"]) (len1 fun _ => rfl)⟩, ⟨_, rfl, rfl, bindsC_pos (ps := ["value"]) (len1 fun _ => rfl)⟩, ⟨_, rfl, rfl, bindsC_D (ks := ["level", "value"]) (ps := ["value", "level"]) (Dk := 0) (dvs := [(L2.V.int 3)]) (ms := []) (its := [(.int 3 tkd6_0)]) (fun {α} us its mv ws => ((ws.drop 1).take 1) ++ ((ws.drop 0).take 1)) t6 rfl (.cons (show L2.RelV (L2.V.int 3) _ from ⟨_, rfl⟩) (.nil)) (fun q hq => (by cases hq)) (fun r1 r2 r3 r4 => (((r4.drop 1).take 1)).append ((r4.drop 0).take 1)) (fun us mv ws l1 l2 l3 => match us, mv, ws, l1, l2, l3 with | [], [], [b0, b1], _, _, _ => ⟨_, rfl, rfl⟩) (fun H ds vs es zs l1 l2 r1 r2 => match ds, l1, es, l2 with | [], _, [_, _], _ => by cases r1; rcases r2 with _ | ⟨q0, r2⟩; rcases r2 with _ | ⟨q1, r2⟩; cases r2; exact .cons q1 (.cons q0 (.nil)))⟩, ⟨_, rfl, rfl, bindsC_D (ks := ["value"]) (ps := ["value", "level"]) (Dk := 0) (dvs := [(L2.V.int 3)]) (ms := []) (its := [(.int 3 tkd6_0)]) (fun {α} us its mv ws => ((ws.drop 0).take 1) ++ ((its.drop 0).take 1)) t6 rfl (.cons (show L2.RelV (L2.V.int 3) _ from ⟨_, rfl⟩) (.nil)) (fun q hq => (by cases hq)) (fun r1 r2 r3 r4 => (((r4.drop 0).take 1)).append ((r2.drop 0).take 1)) (fun us mv ws l1 l2 l3 => match us, mv, ws, l1, l2, l3 with | [], [], [b0], _, _, _ => ⟨_, rfl, rfl⟩) (fun H ds vs es zs l1 l2 r1 r2 => match ds, l1, es, l2 with | [], _, [_], _ => by cases r1; rcases r2 with _ | ⟨q0, r2⟩; cases r2; exact .cons q0 (.cons (.int _) (.nil)))⟩, ⟨_, rfl, rfl, bindsC_D (ks := []) (ps := ["value", "level"]) (Dk := 0) (dvs := [(L2.V.int 3)]) (ms := []) (its := [(.int 3 tkd6_0)]) (fun {α} us its mv ws => ((us.drop 0).take 1) ++ ((its.drop 0).take 1)) t6 rfl (.cons (show L2.RelV (L2.V.int 3) _ from ⟨_, rfl⟩) (.nil)) (fun q hq => (by cases hq)) (fun r1 r2 r3 r4 => (((r1.drop 0).take 1)).append ((r2.drop 0).take 1)) (fun us mv ws l1 l2 l3 => match us, mv, ws, l1, l2, l3 with | [a0], [], [], _, _, _ => ⟨_, rfl, rfl⟩) (fun H ds vs es zs l1 l2 r1 r2 => match ds, l1, es, l2 with | [_], _, [], _ => by rcases r1 with _ | ⟨p0, r1⟩; cases r1; cases r2; exact .cons p0 (.cons (.int _) (.nil)))⟩, ⟨_, rfl, rfl, bindsC_D (ks := ["level"]) (ps := ["value", "level"]) (Dk := 0) (dvs := [(L2.V.int 3)]) (ms := []) (its := [(.int 3 tkd6_0)]) (fun {α} us its mv ws => ((us.drop 0).take 1) ++ ((ws.drop 0).take 1)) t6 rfl (.cons (show L2.RelV (L2.V.int 3) _ from ⟨_, rfl⟩) (.nil)) (fun q hq => (by cases hq)) (fun r1 r2 r3 r4 => (((r1.drop 0).take 1)).append ((r4.drop 0).take 1)) (fun us mv ws l1 l2 l3 => match us, mv, ws, l1, l2, l3 with | [a0], [], [b0], _, _, _ => ⟨_, rfl, rfl⟩) (fun H ds vs es zs l1 l2 r1 r2 => match ds, l1, es, l2 with | [_], _, [_], _ => by rcases r1 with _ | ⟨p0, r1⟩; cases r1; rcases r2 with _ | ⟨q0, r2⟩; cases r2; exact .cons p0 (.cons q0 (.nil)))⟩, ⟨_, rfl, rfl, bindsC_D (ks := []) (ps := ["value", "level"]) (Dk := 0) (dvs := [(L2.V.int 3)]) (ms := []) (its := [(.int 3 tkd6_0)]) (fun {α} us its mv ws => ((us.drop 0).take 1) ++ ((us.drop 1).take 1)) t6 rfl (.cons (show L2.RelV (L2.V.int 3) _ from ⟨_, rfl⟩) (.nil)) (fun q hq => (by cases hq)) (fun r1 r2 r3 r4 => (((r1.drop 0).take 1)).append ((r1.drop 1).take 1)) (fun us mv ws l1 l2 l3 => match us, mv, ws, l1, l2, l3 with | [a0, a1], [], [], _, _, _ => ⟨_, rfl, rfl⟩) (fun H ds vs es zs l1 l2 r1 r2 => match ds, l1, es, l2 with | [_, _], _, [], _ => by rcases r1 with _ | ⟨p0, r1⟩; rcases r1 with _ | ⟨p1, r1⟩; cases r1; cases r2; exact .cons p0 (.cons p1 (.nil)))⟩, ⟨_, rfl, rfl, bindsC_pos (ps := ["value"]) (len1 fun _ => rfl)⟩, ⟨_, rfl, rfl, bindsC_N (ks := ["value"]) (ps := ["value"]) (fun {α} us ws => ((ws.drop 0).take 1)) (fun r1 r4 => ((r4.drop 0).take 1)) (fun us ws l1 l2 => match us, ws, l1, l2 with | [], [b0], _, _ => rfl) (fun H ds vs es zs l1 l2 r1 r2 => match ds, l1, es, l2 with | [], _, [_], _ => by cases r1; rcases r2 with _ | ⟨q0, r2⟩; cases r2; exact .cons q0 (.nil))⟩, ⟨_, rfl, rfl, bindsC_pos (ps := ["value"]) (len1 fun _ => rfl)⟩, ⟨_, rfl, rfl, bindsC_pos (ps := ["text", "at"]) (len2 fun _ _ => rfl)⟩, ⟨_, rfl, rfl, bindsC_pos (ps := ["text", "at", "room"]) (len3 fun _ _ _ => rfl)⟩, ⟨_, rfl, rfl, bindsC_pos (ps := ["text"]) (len1 fun _ => rfl)⟩, ⟨_, rfl, rfl, bindsC_pos (ps := ["_law_script"]) (len1 fun _ => rfl)⟩, ⟨_, rfl, rfl, bindsC_pos (ps := ["_law_state"]) (len1 fun _ => rfl)⟩, ⟨_, rfl, rfl, bindsC_pos (ps := ["_law_state", "_law_size"]) (len2 fun _ _ => rfl)⟩, ⟨_, rfl, rfl, bindsC_pos (ps := ["_law_state", "_law_some"]) (len2 fun _ _ => rfl)⟩, ⟨_, rfl, rfl, bindsC_pos (ps := ["_law_matter"]) (len1 fun _ => rfl)⟩, ⟨_, rfl, rfl, bindsC_pos (ps := ["_law_state"]) (len1 fun _ => rfl)⟩, ⟨_, rfl, rfl, bindsC_pos (ps := ["_law_state", "_law_room"]) (len2 fun _ _ => rfl)⟩, ⟨_, rfl, rfl, bindsC_pos (ps := ["_law_figure"]) (len1 fun _ => rfl)⟩, ⟨_, rfl, rfl, bindsC_pos (ps := ["_law_state", "_law_matter"]) (len2 fun _ _ => rfl)⟩, ⟨_, rfl, rfl, bindsC_pos (ps := ["_law_state", "_law_matter"]) (len2 fun _ _ => rfl)⟩, ⟨_, rfl, rfl, bindsC_pos (ps := ["_law_matter"]) (len1 fun _ => rfl)⟩, ⟨_, rfl, rfl, bindsC_pos (ps := ["_law_matter"]) (len1 fun _ => rfl)⟩, trivial⟩
    case fn => exact ⟨⟨_, rfl, PySem.W.mg_of X G a0⟩, ⟨_, rfl, PySem.W.mg_of X G a1⟩, ⟨_, rfl, PySem.W.mg_of X G a2⟩, ⟨_, rfl, PySem.W.mg_of X G a3⟩, ⟨_, rfl, PySem.W.mg_of X G a4⟩, ⟨_, rfl, PySem.W.mg_of X G a5⟩, ⟨_, rfl, PySem.W.mg_of X G a6⟩, ⟨_, rfl, PySem.W.mg_of X G a7⟩, ⟨_, rfl, PySem.W.mg_of X G a8⟩, ⟨_, rfl, PySem.W.mg_of X G a9⟩, ⟨_, rfl, PySem.W.mg_of X G a10⟩, ⟨_, rfl, PySem.W.mg_of X G a11⟩, ⟨_, rfl, PySem.W.mg_of X G a12⟩, ⟨_, rfl, PySem.W.mg_of X G a13⟩, ⟨_, rfl, PySem.W.mg_of X G a14⟩, ⟨_, rfl, PySem.W.mg_of X G a15⟩, ⟨_, rfl, PySem.W.mg_of X G a16⟩, ⟨_, rfl, PySem.W.mg_of X G a17⟩, ⟨_, rfl, PySem.W.mg_of X G a18⟩, ⟨_, rfl, PySem.W.mg_of X G a19⟩, ⟨_, rfl, PySem.W.mg_of X G a20⟩, ⟨_, rfl, PySem.W.mg_of X G a21⟩, ⟨_, rfl, PySem.W.mg_of X G a22⟩, ⟨_, rfl, PySem.W.mg_of X G a24⟩, trivial⟩
    case cls => exact ⟨⟨_, rfl, PySem.W.mg_of X G e0⟩, ⟨_, rfl, PySem.W.mg_of X G e1⟩, ⟨_, rfl, PySem.W.mg_of X G e2⟩, trivial⟩
    case init => exact trivial
    case own => exact trivial
    case ownL => exact trivial
    case ownB => exact trivial
    case xcl => exact ⟨fun Ca e => by cases e; exact ⟨yg1, yk1, ys1, yd1, ya1, yn1, yt1, ym1⟩, trivial⟩
    case xkit => exact ⟨fun Ca e => by cases e; exact ⟨_, rfl, kix0⟩, fun Ca e => by cases e; exact ⟨_, rfl, kix1⟩, trivial⟩
    case mth => exact trivial
    case glb => exact ⟨⟨_, _, PySem.W.mg_of X G gb0, relV_str, fun H => .str _⟩, ⟨_, _, PySem.W.mg_of X G gb1, relV_int, fun H => .int _⟩, ⟨_, _, PySem.W.mg_of X G gb2, relV_int, fun H => .int _⟩, ⟨_, _, PySem.W.mg_of X G gb3, relV_int, fun H => .int _⟩, ⟨_, _, PySem.W.mg_of X G gb4, relV_str, fun H => .str _⟩, trivial⟩
    case blt => exact ⟨PySem.W.mg_none_of X G z0, PySem.W.mg_none_of X G z1, PySem.W.mg_none_of X G z2, PySem.W.mg_none_of X G z3, PySem.W.mg_none_of X G z4, PySem.W.mg_none_of X G z5, PySem.W.mg_none_of X G z6, PySem.W.mg_none_of X G z7, PySem.W.mg_none_of X G z8, PySem.W.mg_none_of X G z9, PySem.W.mg_none_of X G z10, PySem.W.mg_none_of X G z11, trivial⟩
    case attr => exact trivial
    case kit_ => exact kitPlain_ok
    case kitc => exact kitPlain_c
    case exc => exact ⟨fun Ca e => by cases e; exact ⟨xa1, xb1, xc1, xd1⟩, fun Ca e => by cases e; exact ⟨xa2, xb2, xc2, xd2⟩, trivial⟩
    case tch => exact ⟨⟨_, .inl (PySem.W.mg_of X G e1), fun i Ca e => match i, e with | 0, e => by cases e; exact xm_NoValue_0 | 1, e => by cases e; exact xm_NoValue_1 | 2, e => by cases e; exact xm_NoValue_2 | _ + 3, e => nomatch e⟩, trivial⟩
    case gdc => exact trivial
    case lamD => exact ⟨⟨_, rfl, PySem.W.mg_of X G a23, bindsC_pos (ps := ["_law_work"]) (len1 fun _ => rfl), rfl, (show L.tab.lamS (defScope s23).names = none by decide +kernel)⟩, trivial⟩
    case lamS => exact rfl
    case lamN => decide +kernel
    case lamU => exact fun r hr p hp _ => by cases List.mem_singleton.mp hr; cases List.mem_singleton.mp hp; rfl
    case lamM => exact ⟨⟨_, _, rfl, rfl, rfl, rfl⟩, trivial⟩
  refine ⟨fd25, [⟨(defScope s24).names, cc24, PP24, ("_law_right" : Str) ++ (".<locals>." : Str) ++ ("<lambda>" : Str)⟩], fun s v => .of_eq rfl, ?_, fun base _ _ htb => L3.law_ok W htb (by rfl) rfl S⟩
  intro r hr
  simp only [List.mem_cons, List.not_mem_nil, or_false] at hr
  subst hr
  exact ⟨my24, mn24, mh24⟩
end My
open PySem PySem.W PyProof.Rows
set_option maxRecDepth 100000 in
set_option maxHeartbeats 0 in
theorem PySem.Challenge.cw_loopforms_k01_values_measured_holds : PySem.Challenge.rw_loopforms_k01_values_measured.Holds := by
  w_on; o_law; k_head; (case hw => w_witness2)
  k_fill
  refine L3.walk3 (l := PySem.Challenge.rw_loopforms_k01_values_measured) (x := "_law_script") (k := 290 + 10) rfl rfl ⟨rfl, by decide, by decide⟩ (fun w h Y => PySem.W.km_in_of Y) ?F
  case F =>
    intro w mg fa h Y KX G hmg
    refine' My.all_mk KX G hmg ?e0 ?e1 ?e2 ?a0 ?l0 ?c0 ?k0 ?a1 ?l1 ?c1 ?k1 ?a2 ?l2 ?c2 ?k2 ?a3 ?l3 ?c3 ?k3 ?a4 ?l4 ?c4 ?k4 ?a5 ?l5 ?c5 ?k5 ?a6 ?l6 ?t6 ?c6 ?k6 ?a7 ?l7 ?c7 ?k7 ?a8 ?l8 ?c8 ?k8 ?a9 ?l9 ?c9 ?k9 ?a10 ?l10 ?c10 ?k10 ?a11 ?l11 ?c11 ?k11 ?a12 ?l12 ?c12 ?k12 ?a13 ?l13 ?c13 ?k13 ?a14 ?l14 ?c14 ?k14 ?a15 ?l15 ?c15 ?k15 ?a16 ?l16 ?c16 ?k16 ?a17 ?l17 ?c17 ?k17 ?a18 ?l18 ?c18 ?k18 ?a19 ?l19 ?c19 ?k19 ?a20 ?l20 ?c20 ?k20 ?a21 ?l21 ?c21 ?k21 ?a22 ?l22 ?c22 ?k22 ?a23 ?l23 ?c23 ?k23 ?a24 ?l24 ?mc24 ?mp24 ?mh24 ?mn24 ?my24 ?c24 ?k24 ?a25 ?l25 ?c25 ?k25 ?gb0 ?gb1 ?gb2 ?gb3 ?gb4 ?z0 ?z1 ?z2 ?z3 ?z4 ?z5 ?z6 ?z7 ?z8 ?z9 ?z10 ?z11 ?xa1 ?xb1 ?xc1 ?xd1 ?xa2 ?xb2 ?xc2 ?xd2 ?xm_NoValue_0 ?xm_NoValue_1 ?xm_NoValue_2 ?yg1 ?yk1 ?ys1 ?yd1 ?ya1 ?yn1 ?yt1 ?ym1 ?kix0 ?kix1 My.law_ok
    (case e0 => k_is)
    (case e1 => k_is)
    (case e2 => k_is)
    (case a0 => k_is)
    (case l0 => k_is)
    (case c0 => k_is)
    (case k0 => k_is)
    (case a1 => k_is)
    (case l1 => k_is)
    (case c1 => k_is)
    (case k1 => k_is)
    (case a2 => k_is)
    (case l2 => k_is)
    (case c2 => k_is)
    (case k2 => k_is)
    (case a3 => k_is)
    (case l3 => k_is)
    (case c3 => k_is)
    (case k3 => k_is)
    (case a4 => k_is)
    (case l4 => k_is)
    (case c4 => k_is)
    (case k4 => k_is)
    (case a5 => k_is)
    (case l5 => k_is)
    (case c5 => k_is)
    (case k5 => k_is)
    (case a6 => k_is)
    (case l6 => k_is)
    (case t6 => k_is)
    (case c6 => k_is)
    (case k6 => k_is)
    (case a7 => k_is)
    (case l7 => k_is)
    (case c7 => k_is)
    (case k7 => k_is)
    (case a8 => k_is)
    (case l8 => k_is)
    (case c8 => k_is)
    (case k8 => k_is)
    (case a9 => k_is)
    (case l9 => k_is)
    (case c9 => k_is)
    (case k9 => k_is)
    (case a10 => k_is)
    (case l10 => k_is)
    (case c10 => k_is)
    (case k10 => k_is)
    (case a11 => k_is)
    (case l11 => k_is)
    (case c11 => k_is)
    (case k11 => k_is)
    (case a12 => k_is)
    (case l12 => k_is)
    (case c12 => k_is)
    (case k12 => k_is)
    (case a13 => k_is)
    (case l13 => k_is)
    (case c13 => k_is)
    (case k13 => k_is)
    (case a14 => k_is)
    (case l14 => k_is)
    (case c14 => k_is)
    (case k14 => k_is)
    (case a15 => k_is)
    (case l15 => k_is)
    (case c15 => k_is)
    (case k15 => k_is)
    (case a16 => k_is)
    (case l16 => k_is)
    (case c16 => k_is)
    (case k16 => k_is)
    (case a17 => k_is)
    (case l17 => k_is)
    (case c17 => k_is)
    (case k17 => k_is)
    (case a18 => k_is)
    (case l18 => k_is)
    (case c18 => k_is)
    (case k18 => k_is)
    (case a19 => k_is)
    (case l19 => k_is)
    (case c19 => k_is)
    (case k19 => k_is)
    (case a20 => k_is)
    (case l20 => k_is)
    (case c20 => k_is)
    (case k20 => k_is)
    (case a21 => k_is)
    (case l21 => k_is)
    (case c21 => k_is)
    (case k21 => k_is)
    (case a22 => k_is)
    (case l22 => k_is)
    (case c22 => k_is)
    (case k22 => k_is)
    (case a23 => k_is)
    (case l23 => k_is)
    (case c23 => k_is)
    (case k23 => k_is)
    (case a24 => k_is)
    (case l24 => k_is)
    (case mc24 => k_is)
    (case mp24 => rfl)
    (case mh24 => kernel_rfl)
    (case mn24 => kernel_rfl)
    (case my24 => exact PySem.W.km_tabs_of Y _ (by k_mem))
    (case c24 => k_is)
    (case k24 => k_is)
    (case a25 => k_is)
    (case l25 => k_is)
    (case c25 => k_is)
    (case k25 => k_is)
    (case gb0 => k_is)
    (case gb1 => k_is)
    (case gb2 => k_is)
    (case gb3 => k_is)
    (case gb4 => k_is)
    (case z0 => k_is)
    (case z1 => k_is)
    (case z2 => k_is)
    (case z3 => k_is)
    (case z4 => k_is)
    (case z5 => k_is)
    (case z6 => k_is)
    (case z7 => k_is)
    (case z8 => k_is)
    (case z9 => k_is)
    (case z10 => k_is)
    (case z11 => k_is)
    (case xa1 => k_exc)
    (case xb1 => k_is)
    (case xc1 => k_is)
    (case xd1 => k_is)
    (case xa2 => k_exc)
    (case xb2 => k_is)
    (case xc2 => k_is)
    (case xd2 => k_is)
    (case xm_NoValue_0 => kts_exm)
    (case xm_NoValue_1 => kts_exm)
    (case xm_NoValue_2 => kts_exm)
    (case yg1 => k_is)
    (case yk1 => k_is)
    (case ys1 => k_is)
    (case yd1 => k_is)
    (case ya1 => k_is)
    (case yn1 => k_is)
    (case yt1 => k_is)
    (case ym1 => k_is)
    (case kix0 => kit_is)
    (case kix1 => kit_is)
#print axioms PySem.Challenge.cw_loopforms_k01_values_measured_holds
