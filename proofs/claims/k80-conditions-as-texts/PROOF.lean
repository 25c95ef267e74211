import PyProof.Rows.All
import Wide.All
import OpenK.AllK
import Wide.FinOn
import KE.RegKIsAll
import HandS.Base
import HandS.Call
import HandS.List
import HandS.Comp
import HandS.Exc
import HandS.ExcOwn
import HandS.TryOnly
import HandS.CallSlots
import HandS.Dict
import HandS.Iter
import HandS.Text
import HandS.Deep
import HandS.Words
import HandS.WordsExc
import KE.KeyNested
import KE.KDictKeyed
import KE.KDictDisplayH
import HandS.Lambda
import HandS.TupAny
import HandS.Small
import HandS.Ends
import HandS.EndBits
import HandS.Defaults
import HandS.IsInst
import HandS.CallRecv
import HandS.ExcInit
import HandS.TupMul
import HandS.Style
import PyProof.ReprRoads
import PyProof.SliceStr2
import HandS.More
import PyProof.InstNe
import KE.KDictZip
import KE.GoesZip
import KE.GoesMore
import HandS.GenList
import HandS.MapJoin
import HandS.RaiseMore
import KE.GoesEnum
import HandS.Rev
import HandS.Strs
import HandS.SetFor
import HandS.ExcIs
import PyProof.EqAt
import PyProof.MeetsIn
import PyProof.P3In
import PyProof.NeKinds
import KE.KDictLaws
import HandS.FStr
import PyProof.SliceStr
import PyProof.NeData
import HandS.WideBits
import HandS.EndTab
import PyProof.ReprLen
import KE.KLam
import KE.KNestM
import PySem.Challenge.RW_loopforms_k80_conditions_as_texts
set_option Elab.async false
set_option autoImplicit false
set_option linter.all false
set_option maxRecDepth 100000
namespace L3
open PySem L2
/-- data: tuples are trees; lists, dicts, instances, defs are at addresses -/
inductive D where
  | non | bl (b : Bool) | int (i : Int) | str (x : Str) | ty (n : String) | tup (xs : List D) | rls (xs : List D) | ref (a : Addr)
/-- what stands at an address: a list, a dict, an instance (of the class numbered c). (D.rls: a list that is only read: the script) -/
inductive CO where
  | lst (xs : List D)
  | dic (kvs : List (Key × D))
  | dtk (kvs : List (NestedKey × D))
  | ins (c : Nat) (fs : List (Str × D))
noncomputable abbrev CH := Addr → Option CO
noncomputable def cup (C : CH) (a : Addr) (o : CO) : CH := fun b => if b = a then some o else C b
theorem cup_same {C : CH} {a : Addr} {o : CO} : cup C a o a = some o := by unfold cup; rw [if_pos rfl]
theorem cup_ne {C : CH} {a b : Addr} {o : CO} (h : b ≠ a) : cup C a o b = C b := by unfold cup; rw [if_neg h]
theorem cup_cup {C : CH} {a : Addr} {o u : CO} : cup (cup C a o) a u = cup C a u := by
  funext b; unfold cup; split <;> rfl
/-- an exception: its class's number, its own attributes -/
structure Exn where
  cls : Nat
  fs : List (Str × D) := []
noncomputable abbrev Env3 := List (Option D)
noncomputable abbrev Kv := D → CH → Prop
noncomputable abbrev Kx := Exn → CH → Prop
noncomputable abbrev Kxs := Exn → Env3 → CH → Prop
noncomputable abbrev CTE := Env3 → CH → Kv → Prop
noncomputable abbrev CTT := Env3 → CH → (Bool → CH → Prop) → Prop
noncomputable abbrev CTA := Env3 → CH → (List D → CH → Prop) → Prop
/-- a def in which lambdas are made: its scope's names, its code object, that one's table, the lambdas' name -/
structure LamR where
  names : List (Str × NameKind)
  c : Addr
  P : Addr
  q : Str
/-- the law's classes, its program, its world, its makers of lambdas -/
structure ClsT where
  f : Nat → Option Addr
  P : Program
  w : World
  tb : List LamR := []
instance : CoeFun ClsT fun _ => Nat → Option Addr := ⟨ClsT.f⟩
mutual
noncomputable def keyT : D → Option NestedKey
  | .non => some .none
  | .bl b => some (.num (if b = true then 1 else 0))
  | .int i => some (.num i)
  | .str x => some (.text x)
  | .tup ds => match keysT ds with
    | some ks => some (.tup ks)
    | none => none
  | _ => none
noncomputable def keysT : List D → Option (List NestedKey)
  | [] => some []
  | d :: ds => match keyT d, keysT ds with
    | some k, some ks => some (k :: ks)
    | _, _ => none
end
/-- a dict whose keys are tuples stands at a: its entries (the keys' own objects aside) -/
noncomputable def DRaw (P : Program) (w : World) (h : Heap) (a : Addr) (xs : List (NestedKey × Addr × Value)) : Prop := xs.length ≤ sizeLine ∧ (a == sysModules) = false ∧
  ∃ o es ep, h.get? a = some o ∧ o.ExactDict ∧ o.data = .dict es ep ∧ es.toList = xs.map (entryOfKey (nestedKind P w)) ∧ (xs.map (·.1)).Nodup
noncomputable abbrev DTO (cl : ClsT) (a : Addr) (xs : List (NestedKey × Addr × Value)) : HO := .ext fun h => DRaw cl.P cl.w h a xs
/-- a list that nobody writes: known to the object, or of the module -/
noncomputable def RlS (K : PySem.W.Frag) (H : Hp) (a : Addr) (xs : List V) : Prop := (∃ o, H a = some (.frz o (.lst xs))) ∨
  ∃ (o : Obj) (its : Array Value) (n : Nat), K.lookup a = some o ∧ o.cls = .type "list" ∧ o.dict = none ∧ o.data = .seq its n ∧ its.size ≤ sizeLine ∧ Vals xs its.toList
section
variable (K : PySem.W.Frag) (cl : ClsT)
mutual
inductive Rep (H : Hp) : D → V → Prop
  | non : Rep H .non .non
  | bl (b : Bool) : Rep H (.bl b) (.bl b)
  | int (i : Int) : Rep H (.int i) (.int i)
  | str (x : Str) : Rep H (.str x) (.str x)
  | ty (n : String) : Rep H (.ty n) (.ty n)
  | ref (a : Addr) : Rep H (.ref a) (.ref a)
  | tup {a : Addr} {vs : List V} {ds : List D} : SqT K H a vs → RepL H ds vs → Rep H (.tup ds) (.ref a)
  | rls {a : Addr} {vs : List V} {ds : List D} : RlS K H a vs → RepL H ds vs → Rep H (.rls ds) (.ref a)
inductive RepL (H : Hp) : List D → List V → Prop
  | nil : RepL H [] []
  | cons {d : D} {ds : List D} {v : V} {vs : List V} : Rep H d v → RepL H ds vs → RepL H (d :: ds) (v :: vs)
end
/-- slots -/
inductive RepS (H : Hp) : Env3 → St → Prop
  | nil : RepS H [] []
  | no {σc : Env3} {σ : St} : RepS H σc σ → RepS H (none :: σc) (none :: σ)
  | so {d : D} {v : V} {σc : Env3} {σ : St} : Rep K H d v → RepS H σc σ → RepS H (some d :: σc) (some v :: σ)
/-- pairs by a key -/
inductive RepF {κ : Type} (H : Hp) : List (κ × D) → List (κ × V) → Prop
  | nil : RepF H [] []
  | cons {k : κ} {d : D} {v : V} {ds : List (κ × D)} {vs : List (κ × V)} : Rep K H d v → RepF H ds vs → RepF H ((k, d) :: ds) ((k, v) :: vs)
/-- the entries of such a dict: key, the key's object, value -/
inductive RepK (H : Hp) : List (NestedKey × D) → List (NestedKey × Addr × Value) → Prop
  | nil : RepK H [] []
  | cons {k : NestedKey} {t d : D} {b : Addr} {v : V} {u : Value} {ds : List (NestedKey × D)} {xs : List (NestedKey × Addr × Value)} : keyT t = some k → k.depth ≤ 8 → Rep K H t (.ref b) → Rep K H d v → RelV v u → RepK H ds xs → RepK H ((k, d) :: ds) ((k, b, u) :: xs)
noncomputable def OkO (H : Hp) (a : Addr) : CO → Prop
  | .lst ds => ∃ vs, H a = some (.lst vs) ∧ RepL K H ds vs
  | .dic ds => ∃ vs, H a = some (.dK vs) ∧ RepF K H ds vs
  | .dtk ds => ∃ xs, H a = some (DTO cl a xs) ∧ RepK K H ds xs
  | .ins c ds => ∃ Ca dx vs, cl c = some Ca ∧ H a = some (.ins Ca dx vs) ∧ RepF K H ds vs
noncomputable def tabsOf : List (Addr × Str) := cl.tb.map fun r => (r.P, r.q)
structure Rel (H : Hp) (C : CH) : Prop where
  at_ : ∀ a o, C a = some o → OkO K cl H a o
  tab : LamX.Tabs (tabsOf cl) H
end
instance {K : PySem.W.Frag} {cl : ClsT} {H : Hp} {C : CH} : CoeFun (Rel K cl H C) fun _ => ∀ a o, C a = some o → OkO K cl H a o := ⟨Rel.at_⟩
/-- not a table of code objects -/
noncomputable def NT (o : HO) : Prop := ∀ ps, o ≠ .tbl ps
/-- what the clean heap does not speak of stands as it was, the tables aside -/
noncomputable def Keep (H : Hp) (C : CH) (H' : Hp) (C' : CH) : Prop := ∀ b o, H b = some o → C b = none → NT o → H' b = some o ∧ C' b = none
theorem Keep.refl {H : Hp} {C : CH} : Keep H C H C := fun _ _ h n _ => ⟨h, n⟩
theorem Keep.trans {H H1 H2 : Hp} {C C1 C2 : CH} (k : Keep H C H1 C1) (l : Keep H1 C1 H2 C2) : Keep H C H2 C2 := fun b o h n t =>
  let ⟨h1, n1⟩ := k b o h n t
  l b o h1 n1 t
theorem NT.tup {vs : List V} : NT (.tup vs) := fun _ z => by cases z
theorem NT.frz {o : Obj} {u : HO} : NT (.frz o u) := fun _ z => by cases z
theorem NT.lst {vs : List V} : NT (.lst vs) := fun _ z => by cases z
theorem NT.dK {vs : List (Key × V)} : NT (.dK vs) := fun _ z => by cases z
theorem NT.xd {vs : List (Str × V)} : NT (.xd vs) := fun _ z => by cases z
theorem NT.ins {C x : Addr} {vs : List (Str × V)} : NT (.ins C x vs) := fun _ z => by cases z
theorem NT.ext {p : Heap → Prop} : NT (.ext p) := fun _ z => by cases z
theorem NT.own {a : Addr} : NT (.own a) := fun _ z => by cases z
/-- a heap with this object at a -/
noncomputable def heapAt (a : Addr) (o : Obj) : Heap := ⟨Array.replicate (a + 1) o, {}⟩
theorem heapAt_get {a : Addr} {o : Obj} (h : o.data ≠ .freed) : (heapAt a o).get? a = some o := by
  have e : (heapAt a o).objs[a]? = some o := by
    show (Array.replicate (a + 1) o)[a]? = some o
    simp
  unfold Heap.get?
  rw [e]
  split
  · rename_i e'; cases e'; exact (h rfl).elim
  · rfl
theorem DTO_ne {cl : ClsT} {a : Addr} {xs : List (NestedKey × Addr × Value)} {q : Str} : DTO cl a xs ≠ LamX.CodeO a q := fun z => by
  have e : (fun h => DRaw cl.P cl.w h a xs) = fun h : Heap => ∃ (oc : Obj) (vs : Array Value) (t : Tok), h.get? a = some oc ∧ oc.data = .fields vs ∧ vs[1]? = some (.str q t) := HO.ext.inj z
  have t : Tok := 0
  have g := heapAt_get (a := a) (o := { cls := .none, data := .fields #[.none, .str q t] }) (by intro z; cases z)
  have := congrFun e (heapAt a { cls := .none, data := .fields #[.none, .str q t] })
  have h : DRaw cl.P cl.w (heapAt a { cls := .none, data := .fields #[.none, .str q t] }) a xs := this ▸ ⟨_, _, t, g, rfl, rfl⟩
  obtain ⟨_, _, o, es, ep, h1, _, h2, _⟩ := h
  rw [g] at h1
  cases h1
  cases h2
/-- what the clean heap knows is no table, no code object -/
theorem OkO.odd {K : PySem.W.Frag} {cl : ClsT} {H : Hp} {a : Addr} {o : CO} (h : OkO K cl H a o) : ∃ u, H a = some u ∧ NT u ∧ ∀ q, u ≠ LamX.CodeO a q := by
  cases o with
  | lst ds => obtain ⟨vs, h, _⟩ := h; exact ⟨_, h, .lst, fun q z => by cases z⟩
  | dic ds => obtain ⟨vs, h, _⟩ := h; exact ⟨_, h, .dK, fun q z => by cases z⟩
  | dtk ds => obtain ⟨vs, h, _⟩ := h; exact ⟨_, h, .ext, fun q => DTO_ne⟩
  | ins c ds => obtain ⟨_, _, vs, _, h, _⟩ := h; exact ⟨_, h, .ins, fun q z => by cases z⟩
theorem _root_.LamX.Tabs.write {T : List (Addr × Str)} {H : Hp} {a : Addr} {u o : HO} (t : LamX.Tabs T H) (h : H a = some u) (n1 : NT u) (n2 : ∀ q, u ≠ LamX.CodeO a q) : LamX.Tabs T (upd H a o) := fun p hp => by
  obtain ⟨ps, h1, h2, h3⟩ := t p hp
  refine ⟨ps, ?_, h2, fun pos cv hc => ?_⟩
  · rw [upd_ne (fun z => by rw [z, h] at h1; exact n1 ps (Option.some.inj h1))]; exact h1
  · obtain ⟨c, e1, e2⟩ := h3 pos cv hc
    refine ⟨c, e1, ?_⟩
    rw [upd_ne (fun z => by subst z; rw [h] at e2; exact n2 _ (Option.some.inj e2))]; exact e2
theorem _root_.LamX.Tabs.new {T : List (Addr × Str)} {H : Hp} {a : Addr} {o : HO} (t : LamX.Tabs T H) (h : H a = none) : LamX.Tabs T (upd H a o) := t.ext fun b u e => by rw [upd_ne (ne_of_none e h)]; exact e
section
variable {K : PySem.W.Frag} {cl : ClsT} {H H' H1 : Hp} {C C' C1 : CH}
theorem RepL.length : ∀ {ds : List D} {vs : List V}, RepL K H ds vs → ds.length = vs.length
  | _, _, .nil => rfl
  | _, _, .cons _ t => congrArg (· + 1) t.length
theorem RepL.get : ∀ {ds : List D} {vs : List V} {i : Nat} {d : D}, RepL K H ds vs → ds[i]? = some d → ∃ v, vs[i]? = some v ∧ Rep K H d v
  | _, _, _, _, .nil, e => by simp at e
  | _, _, 0, _, .cons r _, e => by simp at e; subst e; exact ⟨_, rfl, r⟩
  | _, _, i + 1, d, .cons _ t, e => by
    obtain ⟨u, h1, h2⟩ := RepL.get (i := i) (d := d) t (by simpa using e)
    exact ⟨u, by simpa using h1, h2⟩
theorem RepL.append : ∀ {ds es : List D} {vs us : List V}, RepL K H ds vs → RepL K H es us → RepL K H (ds ++ es) (vs ++ us)
  | _, _, _, _, .nil, t => t
  | _, _, _, _, .cons r s, t => .cons r (RepL.append s t)
theorem RepL.set {d : D} {v : V} (r : Rep K H d v) : ∀ {ds : List D} {vs : List V} (i : Nat), RepL K H ds vs → RepL K H (ds.set i d) (vs.set i v)
  | _, _, _, .nil => .nil
  | _, _, 0, .cons _ t => .cons r t
  | _, _, i + 1, .cons q t => .cons q (RepL.set r i t)
theorem RepL.take : ∀ {ds : List D} {vs : List V} (n : Nat), RepL K H ds vs → RepL K H (ds.take n) (vs.take n)
  | _, _, 0, _ => .nil
  | _, _, _ + 1, .nil => .nil
  | _, _, n + 1, .cons r t => .cons r (RepL.take n t)
theorem RepL.drop : ∀ {ds : List D} {vs : List V} (n : Nat), RepL K H ds vs → RepL K H (ds.drop n) (vs.drop n)
  | _, _, 0, r => r
  | _, _, _ + 1, .nil => .nil
  | _, _, n + 1, .cons _ t => RepL.drop n t
theorem RepL.dropLast : ∀ {ds : List D} {vs : List V}, RepL K H ds vs → RepL K H ds.dropLast vs.dropLast
  | _, _, .nil => .nil
  | _, _, .cons _ .nil => .nil
  | _, _, .cons r (.cons q t) => .cons r (RepL.dropLast (.cons q t))
theorem RepL.eraseIdx : ∀ {ds : List D} {vs : List V} (i : Nat), RepL K H ds vs → RepL K H (ds.eraseIdx i) (vs.eraseIdx i)
  | _, _, _, .nil => .nil
  | _, _, 0, .cons _ t => t
  | _, _, i + 1, .cons r t => .cons r (RepL.eraseIdx i t)
theorem RepL.reverse {ds : List D} {vs : List V} (h : RepL K H ds vs) : RepL K H ds.reverse vs.reverse := by
  have go : ∀ {ds es : List D} {vs us : List V}, RepL K H ds vs → RepL K H es us → RepL K H (ds.reverseAux es) (vs.reverseAux us) := by
    intro ds
    induction ds with
    | nil => intro es vs us h t; cases h; exact t
    | cons d ds ih =>
      intro es vs us h t
      cases h with
      | cons r s => exact (show RepL K H (List.reverseAux _ (_ :: _)) (List.reverseAux _ (_ :: _)) from ih s (.cons r t))
  exact go h .nil
theorem RepS.length : ∀ {σc : Env3} {σ : St}, RepS K H σc σ → σc.length = σ.length
  | _, _, .nil => rfl
  | _, _, .no t => congrArg (· + 1) t.length
  | _, _, .so _ t => congrArg (· + 1) t.length
theorem RepS.get : ∀ {σc : Env3} {σ : St} {i : Nat} {d : D}, RepS K H σc σ → σc[i]? = some (some d) → ∃ v, σ[i]? = some (some v) ∧ Rep K H d v
  | _, _, _, _, .nil, e => by simp at e
  | _, _, 0, _, .no _, e => by simp at e
  | _, _, 0, _, .so r _, e => by simp at e; subst e; exact ⟨_, rfl, r⟩
  | _, _, i + 1, d, .no t, e => by
    obtain ⟨u, h1, h2⟩ := RepS.get (i := i) (d := d) t (by simpa using e)
    exact ⟨u, by simpa using h1, h2⟩
  | _, _, i + 1, d, .so _ t, e => by
    obtain ⟨u, h1, h2⟩ := RepS.get (i := i) (d := d) t (by simpa using e)
    exact ⟨u, by simpa using h1, h2⟩
theorem RepS.set {d : D} {v : V} (r : Rep K H d v) : ∀ {σc : Env3} {σ : St} (i : Nat), RepS K H σc σ → RepS K H (σc.set i (some d)) (σ.set i (some v))
  | _, _, _, .nil => .nil
  | _, _, 0, .no t => .so r t
  | _, _, 0, .so _ t => .so r t
  | _, _, i + 1, .no t => .no (RepS.set r i t)
  | _, _, i + 1, .so q t => .so q (RepS.set r i t)
theorem RepS.wipe1 : ∀ {σc : Env3} {σ : St} (i : Nat), RepS K H σc σ → RepS K H (σc.set i none) (σ.set i none)
  | _, _, _, .nil => .nil
  | _, _, 0, .no t => .no t
  | _, _, 0, .so _ t => .no t
  | _, _, i + 1, .no t => .no (RepS.wipe1 i t)
  | _, _, i + 1, .so q t => .so q (RepS.wipe1 i t)
theorem RepF.lookup {ds : List (Str × D)} {vs : List (Str × V)} {f : Str} {d : D} (h : RepF K H ds vs) (e : ds.lookup f = some d) : ∃ v, vs.lookup f = some v ∧ Rep K H d v := by
  induction h with
  | nil => simp at e
  | @cons k d' v' ds' vs' r t ih =>
    rw [List.lookup_cons] at e ⊢
    cases hb : f == k with
    | true => rw [hb] at e; simp at e; subst e; exact ⟨v', rfl, r⟩
    | false => rw [hb] at e; exact ih e
theorem RepF.length {κ : Type} : ∀ {ds : List (κ × D)} {vs : List (κ × V)}, RepF K H ds vs → ds.length = vs.length
  | _, _, .nil => rfl
  | _, _, .cons _ t => congrArg (· + 1) t.length
theorem Rel.noTup (R : Rel K cl H C) {a : Addr} {xs : List V} (h : Rd H a (.tup xs)) : C a = none := by
  cases e : C a with
  | none => rfl
  | some o =>
    have q := R a o e
    cases o with
    | lst ds =>
      obtain ⟨vs, hl, _⟩ := q
      rcases h with h | ⟨u, h⟩ <;> (rw [hl] at h; cases h)
    | dic ds =>
      obtain ⟨vs, hl, _⟩ := q
      rcases h with h | ⟨u, h⟩ <;> (rw [hl] at h; cases h)
    | dtk ds =>
      obtain ⟨vs, hl, _⟩ := q
      rcases h with h | ⟨u, h⟩ <;> (rw [hl] at h; cases h)
    | ins c ds =>
      obtain ⟨_, _, vs, _, hl, _⟩ := q
      rcases h with h | ⟨u, h⟩ <;> (rw [hl] at h; cases h)
theorem Rel.noFrz (R : Rel K cl H C) {a : Addr} {o : Obj} {u : HO} (h : H a = some (.frz o u)) : C a = none := by
  cases e : C a with
  | none => rfl
  | some w =>
    have q := R a w e
    cases w with
    | lst ds => obtain ⟨vs, hl, _⟩ := q; rw [hl] at h; cases h
    | dic ds => obtain ⟨vs, hl, _⟩ := q; rw [hl] at h; cases h
    | dtk ds => obtain ⟨vs, hl, _⟩ := q; rw [hl] at h; cases h
    | ins c ds => obtain ⟨_, _, vs, _, hl, _⟩ := q; rw [hl] at h; cases h
theorem RlS.keep (R : Rel K cl H C) (k : Keep H C H' C') {a : Addr} {xs : List V} (h : RlS K H a xs) : RlS K H' a xs := by
  rcases h with ⟨o, h⟩ | h
  · exact .inl ⟨o, (k _ _ h (R.noFrz h) .frz).1⟩
  · exact .inr h
theorem RlS.sq {a : Addr} {xs : List V} (h : RlS K H a xs) : SqL K H a xs := by
  rcases h with ⟨o, h⟩ | h
  · exact .inl (.inr ⟨o, h⟩)
  · exact .inr h
theorem SqT.keep (R : Rel K cl H C) (k : Keep H C H' C') {a : Addr} {xs : List V} (h : SqT K H a xs) : SqT K H' a xs := by
  rcases h with h | h
  · have n := R.noTup h
    rcases h with h | ⟨o, h⟩
    · exact .inl (.inl (k _ _ h n .tup).1)
    · exact .inl (.inr ⟨o, (k _ _ h n .frz).1⟩)
  · exact .inr h
mutual
theorem Rep.keep (R : Rel K cl H C) (k : Keep H C H' C') : ∀ {d : D} {v : V}, Rep K H d v → Rep K H' d v
  | _, _, .non => .non
  | _, _, .bl b => .bl b
  | _, _, .int b => .int b
  | _, _, .str b => .str b
  | _, _, .ty b => .ty b
  | _, _, .ref b => .ref b
  | _, _, .tup s t => .tup (SqT.keep R k s) (RepL.keep R k t)
  | _, _, .rls s t => .rls (RlS.keep R k s) (RepL.keep R k t)
theorem RepL.keep (R : Rel K cl H C) (k : Keep H C H' C') : ∀ {d : List D} {v : List V}, RepL K H d v → RepL K H' d v
  | _, _, .nil => .nil
  | _, _, .cons r t => .cons (Rep.keep R k r) (RepL.keep R k t)
end
theorem RepS.keep (R : Rel K cl H C) (k : Keep H C H' C') : ∀ {d : Env3} {v : St}, RepS K H d v → RepS K H' d v
  | _, _, .nil => .nil
  | _, _, .no t => .no (RepS.keep R k t)
  | _, _, .so r t => .so (r.keep R k) (RepS.keep R k t)
theorem RepF.keep {κ : Type} (R : Rel K cl H C) (k : Keep H C H' C') : ∀ {d : List (κ × D)} {v : List (κ × V)}, RepF K H d v → RepF K H' d v
  | _, _, .nil => .nil
  | _, _, .cons r t => .cons (r.keep R k) (RepF.keep R k t)
theorem RepK.keep (R : Rel K cl H C) (k : Keep H C H' C') : ∀ {d : List (NestedKey × D)} {v : List (NestedKey × Addr × Value)}, RepK K H d v → RepK K H' d v
  | _, _, .nil => .nil
  | _, _, .cons e z t r q rs => .cons e z (t.keep R k) (r.keep R k) q (RepK.keep R k rs)
theorem RepK.length : ∀ {ds : List (NestedKey × D)} {xs : List (NestedKey × Addr × Value)}, RepK K H ds xs → ds.length = xs.length
  | _, _, .nil => rfl
  | _, _, .cons _ _ _ _ _ t => congrArg (· + 1) t.length
/-- the clean heap is a part of another one -/
noncomputable def Sub (C C' : CH) : Prop := ∀ a o, C a = some o → C' a = some o
theorem Sub.refl {C : CH} : Sub C C := fun _ _ h => h
theorem Sub.trans {C C1 C2 : CH} (a : Sub C C1) (b : Sub C1 C2) : Sub C C2 := fun c o h => b c o (a c o h)
theorem Sub.new {C : CH} {p : Addr} {o : CO} (h : C p = none) : Sub C (cup C p o) := fun a u e => by
  rw [cup_ne (by intro z; rw [z, h] at e; cases e)]; exact e
theorem Rel.sub (R : Rel K cl H C) (s : Sub C' C) : Rel K cl H C' := ⟨fun a o e => R a o (s a o e), R.tab⟩
theorem Keep.sub (k : Keep H C H' C1) (s : Sub C' C1) : Keep H C H' C' := fun b o h n t =>
  let ⟨h1, n1⟩ := k b o h n t
  ⟨h1, by
    cases e : C' b with
    | none => rfl
    | some u => rw [s b u e] at n1; cases n1⟩
/-- a new object in H that the clean heap does not know (a tuple, the dict of an instance ..) -/
theorem free_of (R : Rel K cl H C) {p : Addr} (h : H p = none) : C p = none := by
  cases e : C p with
  | none => rfl
  | some o =>
    have q := R p o e
    cases o with
    | lst ds => obtain ⟨vs, hl, _⟩ := q; rw [h] at hl; cases hl
    | dic ds => obtain ⟨vs, hl, _⟩ := q; rw [h] at hl; cases hl
    | dtk ds => obtain ⟨vs, hl, _⟩ := q; rw [h] at hl; cases hl
    | ins c ds => obtain ⟨_, _, vs, _, hl, _⟩ := q; rw [h] at hl; cases hl
end
end L3
namespace L3
open PySem L2
structure EndsC where
  nx : Env3 → CH → Prop
  rt : Kv
  bk : Env3 → CH → Prop := fun _ _ => False
  ct : Env3 → CH → Prop := fun _ _ => False
noncomputable abbrev CTS := EndsC → Env3 → CH → Prop
structure S3 (K : PySem.W.Frag) (cl : ClsT) (H0 : Hp) (C0 : CH) (σ : St) (H : Hp) (σc : Env3) (C : CH) : Prop where
  s : RepS K H σc σ
  r : Rel K cl H C
  f : Keep H0 C0 H C
theorem S3.step {K : PySem.W.Frag} {cl : ClsT} {H0 H H' : Hp} {C0 C C' : CH} {σ : St} {σc : Env3} (S : S3 K cl H0 C0 σ H σc C) (k : Keep H C H' C') (r : Rel K cl H' C') : S3 K cl H0 C0 σ H' σc C' :=
  ⟨S.s.keep S.r k, r, S.f.trans k⟩
section
variable (K : PySem.W.Frag) (cl : ClsT) (H0 : Hp) (C0 : CH)
noncomputable def EndE (H : Hp) (C : CH) (Qc : Kv) (Q : VK) : Prop := ∀ d C' v H', Qc d C' → Rep K H' d v → Rel K cl H' C' → Keep H C H' C' → Q v H'
noncomputable def EndT (H : Hp) (C : CH) (Qc : Bool → CH → Prop) (Q : Bool → Hp → Prop) : Prop := ∀ b C' H', Qc b C' → Rel K cl H' C' → Keep H C H' C' → Q b H'
noncomputable def EndA (H : Hp) (C : CH) (Qc : List D → CH → Prop) (Q : List V → Hp → Prop) : Prop := ∀ ds C' vs H', Qc ds C' → RepL K H' ds vs → Rel K cl H' C' → Keep H C H' C' → Q vs H'
noncomputable def EndN (H : Hp) (C : CH) (Qc : Env3 → CH → Prop) (Q : St → Hp → Prop) : Prop := ∀ σc C' σ H', Qc σc C' → RepS K H' σc σ → Rel K cl H' C' → Keep H C H' C' → Q σ H'
structure EndS (H : Hp) (C : CH) (Dc : EndsC) (D : Ends) : Prop where
  nx : EndN K cl H C Dc.nx D.nx
  rt : EndE K cl H C Dc.rt D.rt
  bk : EndN K cl H C Dc.bk D.bk
  ct : EndN K cl H C Dc.ct D.ct
noncomputable def tE (c : CTE) : TE := fun σ H Q => ∃ σc C Qc, S3 K cl H0 C0 σ H σc C ∧ c σc C Qc ∧ EndE K cl H C Qc Q
noncomputable def tT (c : CTT) : TT := fun σ H Q => ∃ σc C Qc, S3 K cl H0 C0 σ H σc C ∧ c σc C Qc ∧ EndT K cl H C Qc Q
noncomputable def tA (c : CTA) : TA := fun σ H Q => ∃ σc C Qc, S3 K cl H0 C0 σ H σc C ∧ c σc C Qc ∧ EndA K cl H C Qc Q
noncomputable def tS (c : CTS) : TS := fun D σ H => ∃ σc C Dc, S3 K cl H0 C0 σ H σc C ∧ c Dc σc C ∧ EndS K cl H C Dc D
noncomputable def XRel (H : Hp) (x : Exn) (cls : Value) (d : Option Addr) : Prop := ∃ Ca, cl x.cls = some Ca ∧ cls = .ref Ca ∧ ((d = none ∧ x.fs = []) ∨ ∃ a fs, x.fs ≠ [] ∧ d = some a ∧ H a = some (.xd fs) ∧ RepF K H x.fs fs)
/-- the wish of a context -/
noncomputable def WC (ex : Kxs) : WX := fun cls d σ H => ∃ x σc C, ex x σc C ∧ XRel K cl H x cls d ∧ S3 K cl H0 C0 σ H σc C
end
section
variable {K : PySem.W.Frag} {cl : ClsT} {H H1 H2 : Hp} {C C1 C2 : CH}
theorem EndE.from_ {Qc : Kv} {Q : VK} (h : EndE K cl H C Qc Q) (k : Keep H C H1 C1) : EndE K cl H1 C1 Qc Q := fun d C' v H' q r R k' => h d C' v H' q r R (k.trans k')
theorem EndN.from_ {Qc : Env3 → CH → Prop} {Q : St → Hp → Prop} (h : EndN K cl H C Qc Q) (k : Keep H C H1 C1) : EndN K cl H1 C1 Qc Q := fun d C' v H' q r R k' => h d C' v H' q r R (k.trans k')
theorem EndS.from_ {Dc : EndsC} {D : Ends} (h : EndS K cl H C Dc D) (k : Keep H C H1 C1) : EndS K cl H1 C1 Dc D := ⟨h.nx.from_ k, h.rt.from_ k, h.bk.from_ k, h.ct.from_ k⟩
theorem EndE.now {Qc : Kv} {Q : VK} {d : D} {v : V} (h : EndE K cl H C Qc Q) (q : Qc d C) (r : Rep K H d v) (R : Rel K cl H C) : Q v H := h d C v H q r R Keep.refl
end
theorem _root_.L2.PE.imp {X : Cx} {e : Expr} {t t' : TE} (h : PE X e t) (i : ∀ σ H Q, t' σ H Q → t σ H Q) : PE X e t' := ⟨fun pins s σ H Q I q => h.run pins s σ H Q I (i _ _ _ q)⟩
theorem _root_.L2.PT.imp {X : Cx} {e : Expr} {t t' : TT} (h : PT X e t) (i : ∀ σ H Q, t' σ H Q → t σ H Q) : PT X e t' := ⟨fun pins s σ H Q I q => h.run pins s σ H Q I (i _ _ _ q)⟩
theorem _root_.L2.PW.imp {X : Cx} {e : Expr} {t t' : TT} (h : PW X e t) (i : ∀ σ H Q, t' σ H Q → t σ H Q) : PW X e t' := ⟨fun wh pins s σ H Q I q => h.run wh pins s σ H Q I (i _ _ _ q)⟩
theorem _root_.L2.PA.imp {X : Cx} {es : List Expr} {t t' : TA} (h : PA X es t) (i : ∀ σ H Q, t' σ H Q → t σ H Q) : PA X es t' := ⟨fun p pins s σ H Q I q => h.run p pins s σ H Q I (i _ _ _ q)⟩
theorem _root_.L2.PS.imp {X : Cx} {st : Stmt} {t t' : TS} (h : PS X st t) (i : ∀ D σ H, t' D σ H → t D σ H) : PS X st t' := ⟨fun pins s σ H D I q => h.run pins s σ H D I (i _ _ _ q)⟩
theorem _root_.L2.PSs.imp {X : Cx} {st : List Stmt} {t t' : TS} (h : PSs X st t) (i : ∀ D σ H, t' D σ H → t D σ H) : PSs X st t' := ⟨fun pins s σ H D I q => h.run pins s σ H D I (i _ _ _ q)⟩
section
variable (X : Cx) (cl : ClsT) (H0 : Hp) (C0 : CH)
noncomputable def CPE (e : Expr) (c : CTE) : Prop := PE X e (tE X.K cl H0 C0 c)
noncomputable def CPT (e : Expr) (c : CTT) : Prop := PT X e (tT X.K cl H0 C0 c)
noncomputable def CPW (e : Expr) (c : CTT) : Prop := PW X e (tT X.K cl H0 C0 c)
noncomputable def CPA (e : List Expr) (c : CTA) : Prop := PA X e (tA X.K cl H0 C0 c)
noncomputable def CPS (e : Stmt) (c : CTS) : Prop := PS X e (tS X.K cl H0 C0 c)
noncomputable def CPSs (e : List Stmt) (c : CTS) : Prop := PSs X e (tS X.K cl H0 C0 c)
end
noncomputable def cVar (i : Nat) : CTE := fun σ C Q => ∃ d, σ[i]? = some (some d) ∧ Q d C
noncomputable def cC (d : D) : CTE := fun _ C Q => Q d C
noncomputable abbrev O2 := D → D → CH → Kv → Prop
noncomputable abbrev O1 := D → CH → Kv → Prop
noncomputable abbrev OL := List D → CH → Kv → Prop
noncomputable def cBin (o : O2) (a b : CTE) : CTE := fun σ C Q => a σ C fun d C1 => b σ C1 fun e C2 => o d e C2 Q
noncomputable def cUn (o : O1) (a : CTE) : CTE := fun σ C Q => a σ C fun d C1 => o d C1 Q
noncomputable def cList (o : OL) (a : CTA) : CTE := fun σ C Q => a σ C fun ds C1 => o ds C1 Q
section
variable (K : PySem.W.Frag) (cl : ClsT)
/-- a rule by values over V is met by a clean one -/
noncomputable def Lk2 (r : R2) (o : O2) : Prop := ∀ H C d e v u Q Qc, Rep K H d v → Rep K H e u → Rel K cl H C → o d e C Qc → EndE K cl H C Qc Q → r v u H Q
noncomputable def Lk1 (r : V → Hp → VK → Prop) (o : O1) : Prop := ∀ H C d v Q Qc, Rep K H d v → Rel K cl H C → o d C Qc → EndE K cl H C Qc Q → r v H Q
noncomputable def LkL (r : List V → Hp → VK → Prop) (o : OL) : Prop := ∀ H C ds vs Q Qc, RepL K H ds vs → Rel K cl H C → o ds C Qc → EndE K cl H C Qc Q → r vs H Q
end
section
variable {X : Cx} {cl : ClsT} {H0 : Hp} {C0 : CH} {a b c e : Expr} {es : List Expr} {ca cb cc : CTE} {pos : Pos}
theorem cpe_var {i : Nat} {x : Str} (hN : X.N[i]? = some x) (hv : Vis X.env.scope x) (hd : (x == ("__debug__" : Str)) = false) (hcd : (x == ("__classdict__" : Str)) = false) : CPE X cl H0 C0 (.Name x pos) (cVar i) :=
  (pe_var hN hv hd hcd).imp fun σ H Q ⟨σc, C, Qc, S, ⟨d, e, q⟩, hq⟩ => by
    obtain ⟨v, h1, h2⟩ := S.s.get e
    exact ⟨v, h1, hq.now q h2 S.r⟩
theorem tC_of {d : D} {v : V} (r : ∀ H, Rep X.K H d v) : ∀ σ H Q, tE X.K cl H0 C0 (cC d) σ H Q → tC v σ H Q := fun σ H Q ⟨σc, C, Qc, S, q, hq⟩ => hq.now q (r H) S.r
theorem cpe_int {i : Int} {j : Nat} : CPE X cl H0 C0 (.Constant (.int i) j pos) (cC (.int i)) := pe_int.imp (tC_of fun _ => .int i)
theorem cpe_bl {i : Bool} {j : Nat} : CPE X cl H0 C0 (.Constant (.bool i) j pos) (cC (.bl i)) := pe_bl.imp (tC_of fun _ => .bl i)
theorem cpe_non {j : Nat} : CPE X cl H0 C0 (.Constant .none j pos) (cC .non) := pe_non.imp (tC_of fun _ => .non)
theorem cpe_str {i : Str} {j : Nat} : CPE X cl H0 C0 (.Constant (.str i) j pos) (cC (.str i)) := pe_str.imp (tC_of fun _ => .str i)
theorem cpe_glob {x : Str} {d : D} {v : V} {u : Value} (hg : Gl X x) (hm : X.mg x = some u) (r : RelV v u) (rd : ∀ H, Rep X.K H d v) (hd : (x == ("__debug__" : Str)) = false) : CPE X cl H0 C0 (.Name x pos) (cC d) :=
  (pe_glob hg hm r hd).imp (tC_of rd)
theorem cpe_bin {op : Operator} {r : R2} {o : O2} (ho : OpR X (binaryOp op) r) (l : Lk2 X.K cl r o) (ha : CPE X cl H0 C0 a ca) (hb : CPE X cl H0 C0 b cb) : CPE X cl H0 C0 (.BinOp a op b pos) (cBin o ca cb) :=
  (pe_op ho ha hb).imp fun σ H Q ⟨σc, C, Qc, S, h, hq⟩ => ⟨σc, C, _, S, h, fun d C1 v H1 h1 rv R1 k1 => ⟨σc, C1, _, S.step k1 R1, h1, fun e C2 u H2 h2 ru R2 k2 =>
    l H2 C2 d e v u Q Qc (rv.keep R1 k2) ru R2 h2 ((hq.from_ k1).from_ k2)⟩⟩
theorem tOp_of {r : R2} {o : O2} {ta tb : TE} (l : Lk2 X.K cl r o) : ∀ σ H Q, tE X.K cl H0 C0 (cBin o ca cb) σ H Q → tOp r (tE X.K cl H0 C0 ca) (tE X.K cl H0 C0 cb) σ H Q :=
  fun σ H Q ⟨σc, C, Qc, S, h, hq⟩ => ⟨σc, C, _, S, h, fun d C1 v H1 h1 rv R1 k1 => ⟨σc, C1, _, S.step k1 R1, h1, fun e C2 u H2 h2 ru R2 k2 =>
    l H2 C2 d e v u Q Qc (rv.keep R1 k2) ru R2 h2 ((hq.from_ k1).from_ k2)⟩⟩
theorem cpe_un {op : UnaryOp} {r : V → Hp → VK → Prop} {o : O1} (ho : UnR X (unaryOp op) r) (l : Lk1 X.K cl r o) (ha : CPE X cl H0 C0 a ca) : CPE X cl H0 C0 (.UnaryOp op a pos) (cUn o ca) :=
  (pe_un ho ha).imp fun σ H Q ⟨σc, C, Qc, S, h, hq⟩ => ⟨σc, C, _, S, h, fun d C1 v H1 h1 rv R1 k1 => l H1 C1 d v Q Qc rv R1 h1 (hq.from_ k1)⟩
theorem cpe_cmp {op : CmpOp} {r : R2} {o : O2} (ho : OpR X (compareOp op) r) (l : Lk2 X.K cl r o) (ha : CPE X cl H0 C0 a ca) (hb : CPE X cl H0 C0 b cb) (hm : behindInMarks op b = false) : CPE X cl H0 C0 (.Compare a [op] [b] pos) (cBin o ca cb) :=
  (pe_cmpR ho ha hb hm).imp (tOp_of (ta := tE X.K cl H0 C0 ca) (tb := tE X.K cl H0 C0 cb) l)
/-- a value that is a bool, as a test -/
noncomputable def cTst (c : CTE) : CTT := fun σ C Q => c σ C fun d C1 => ∃ b, d = .bl b ∧ Q b C1
theorem cpt_cmp {op : CmpOp} {r : R2} {o : O2} (ho : OpR X (compareOp op) r) (l : Lk2 X.K cl r o) (ha : CPE X cl H0 C0 a ca) (hb : CPE X cl H0 C0 b cb) (hm : behindInMarks op b = false) : CPT X cl H0 C0 (.Compare a [op] [b] pos) (cTst (cBin o ca cb)) :=
  (pt_cmpR ho ha hb hm).imp fun σ H Q ⟨σc, C, Qc, S, h, hq⟩ => ⟨σc, C, _, S, h, fun d C1 v H1 h1 rv R1 k1 => ⟨σc, C1, _, S.step k1 R1, h1, fun e C2 u H2 h2 ru R2 k2 =>
    l H2 C2 d e v u _ _ (rv.keep R1 k2) ru R2 h2 fun z C3 w H3 h3 rz R3 k3 => by
      obtain ⟨b, rfl, q⟩ := h3
      cases rz
      exact ⟨b, rfl, hq b C3 H3 q R3 ((k1.trans k2).trans k3)⟩⟩⟩
theorem cpt_val (ha : CPE X cl H0 C0 a ca) (he : ∀ whole, isTrue a X.env whole = (do let v ← whole; standAt a.pos; holding [v] (truthy v))) : CPT X cl H0 C0 a (cTst ca) :=
  (pt_val ha he).imp fun σ H Q ⟨σc, C, Qc, S, h, hq⟩ => ⟨σc, C, _, S, h, fun z C1 w H1 h1 rz R1 k1 => by
      obtain ⟨b, rfl, q⟩ := h1
      cases rz
      exact ⟨b, rfl, hq b C1 H1 q R1 k1⟩⟩
/-- a value that is a bool or None, as a test -/
noncomputable def tstD : D → (Bool → Prop) → Prop
  | .bl b, Q => Q b
  | .non, Q => Q false
  | _, _ => False
noncomputable def cTsN (c : CTE) : CTT := fun σ C Q => c σ C fun d C1 => tstD d fun b => Q b C1
noncomputable def cAnd (a b : CTT) : CTT := fun σ C Q => a σ C fun c C1 => if c = true then b σ C1 Q else Q false C1
noncomputable def cOr (a b : CTT) : CTT := fun σ C Q => a σ C fun c C1 => if c = true then Q true C1 else b σ C1 Q
noncomputable def cNot (a : CTT) : CTT := fun σ C Q => a σ C fun c C1 => Q (!c) C1
variable {ka kb : CTT} {rest : List Expr}
theorem EndT.from_ {K : PySem.W.Frag} {H H1 : Hp} {C C1 : CH} {Qc : Bool → CH → Prop} {Q : Bool → Hp → Prop} (h : EndT K cl H C Qc Q) (k : Keep H C H1 C1) : EndT K cl H1 C1 Qc Q := fun d C' H' q R k' => h d C' H' q R (k.trans k')
theorem cpw_and1 (ha : CPT X cl H0 C0 a ka) : CPW X cl H0 C0 (.BoolOp .And [a] pos) ka := pw_and1 ha
theorem cpw_or1 (ha : CPT X cl H0 C0 a ka) : CPW X cl H0 C0 (.BoolOp .Or [a] pos) ka := pw_or1 ha
theorem cpw_and (ha : CPT X cl H0 C0 a ka) (hb : CPW X cl H0 C0 (.BoolOp .And (b :: rest) pos) kb) : CPW X cl H0 C0 (.BoolOp .And (a :: b :: rest) pos) (cAnd ka kb) :=
  (pw_and ha hb).imp fun σ H Q ⟨σc, C, Qc, S, h, hq⟩ => ⟨σc, C, _, S, h, fun z C1 H1 h1 R1 k1 => by
    cases z with
    | true => exact iteT ⟨σc, C1, _, S.step k1 R1, h1, hq.from_ k1⟩
    | false => exact iteF (hq _ _ _ h1 R1 k1)⟩
theorem cpw_or (ha : CPT X cl H0 C0 a ka) (hb : CPW X cl H0 C0 (.BoolOp .Or (b :: rest) pos) kb) : CPW X cl H0 C0 (.BoolOp .Or (a :: b :: rest) pos) (cOr ka kb) :=
  (pw_or ha hb).imp fun σ H Q ⟨σc, C, Qc, S, h, hq⟩ => ⟨σc, C, _, S, h, fun z C1 H1 h1 R1 k1 => by
    cases z with
    | true => exact iteT (hq _ _ _ h1 R1 k1)
    | false => exact iteF ⟨σc, C1, _, S.step k1 R1, h1, hq.from_ k1⟩⟩
theorem CPW.pt (h : CPW X cl H0 C0 a ka) : CPT X cl H0 C0 a ka := L2.PW.pt h
theorem cpt_not (ha : CPT X cl H0 C0 a ka) : CPT X cl H0 C0 (.UnaryOp .Not a pos) (cNot ka) :=
  (pt_not ha).imp fun σ H Q ⟨σc, C, Qc, S, h, hq⟩ => ⟨σc, C, _, S, h, fun z C1 H1 h1 R1 k1 => hq _ _ _ h1 R1 k1⟩
/-- and, or, not as values: all but the last are bools -/
noncomputable def cAndV (a b : CTE) : CTE := fun σ C Q => a σ C fun d C1 => ∃ c, d = .bl c ∧ if c = true then b σ C1 Q else Q (.bl false) C1
noncomputable def cOrV (a b : CTE) : CTE := fun σ C Q => a σ C fun d C1 => ∃ c, d = .bl c ∧ if c = true then Q (.bl true) C1 else b σ C1 Q
noncomputable def cNotV (a : CTE) : CTE := fun σ C Q => a σ C fun d C1 => ∃ c, d = .bl c ∧ Q (.bl (!c)) C1
theorem cpe_one {op} (h : CPE X cl H0 C0 a ca) : CPE X cl H0 C0 (.BoolOp op [a] pos) ca := pe_one h
theorem cpe_and (ha : CPE X cl H0 C0 a ca) (hb : CPE X cl H0 C0 (.BoolOp .And (b :: rest) pos) cb) : CPE X cl H0 C0 (.BoolOp .And (a :: b :: rest) pos) (cAndV ca cb) :=
  (pe_and ha hb).imp fun σ H Q ⟨σc, C, Qc, S, h, hq⟩ => ⟨σc, C, _, S, h, fun z C1 v H1 h1 rz R1 k1 => by
    obtain ⟨c, rfl, h1⟩ := h1
    cases rz
    refine ⟨c, rfl, ?_⟩
    cases c with
    | true => exact iteT ⟨σc, C1, _, S.step k1 R1, h1, hq.from_ k1⟩
    | false => exact iteF (hq _ _ _ _ h1 (.bl _) R1 k1)⟩
theorem cpe_or (ha : CPE X cl H0 C0 a ca) (hb : CPE X cl H0 C0 (.BoolOp .Or (b :: rest) pos) cb) : CPE X cl H0 C0 (.BoolOp .Or (a :: b :: rest) pos) (cOrV ca cb) :=
  (pe_or ha hb).imp fun σ H Q ⟨σc, C, Qc, S, h, hq⟩ => ⟨σc, C, _, S, h, fun z C1 v H1 h1 rz R1 k1 => by
    obtain ⟨c, rfl, h1⟩ := h1
    cases rz
    refine ⟨c, rfl, ?_⟩
    cases c with
    | true => exact iteT (hq _ _ _ _ h1 (.bl _) R1 k1)
    | false => exact iteF ⟨σc, C1, _, S.step k1 R1, h1, hq.from_ k1⟩⟩
theorem cpe_not (ha : CPE X cl H0 C0 a ca) : CPE X cl H0 C0 (.UnaryOp .Not a pos) (cNotV ca) :=
  (pe_not ha).imp fun σ H Q ⟨σc, C, Qc, S, h, hq⟩ => ⟨σc, C, _, S, h, fun z C1 v H1 h1 rz R1 k1 => by
    obtain ⟨c, rfl, h1⟩ := h1
    cases rz
    exact ⟨c, rfl, hq _ _ _ _ h1 (.bl _) R1 k1⟩⟩
noncomputable def cIf (t : CTT) (a b : CTE) : CTE := fun σ C Q => t σ C fun c C1 => if c = true then a σ C1 Q else b σ C1 Q
theorem cpe_if (ht : CPT X cl H0 C0 c ka) (ha : CPE X cl H0 C0 a ca) (hb : CPE X cl H0 C0 b cb) : CPE X cl H0 C0 (.IfExp c a b pos) (cIf ka ca cb) :=
  (pe_ifExp ht ha hb).imp fun σ H Q ⟨σc, C, Qc, S, h, hq⟩ => ⟨σc, C, _, S, h, fun z C1 H1 h1 R1 k1 => by
    cases z with
    | true => exact iteT ⟨σc, C1, _, S.step k1 R1, h1, hq.from_ k1⟩
    | false => exact iteF ⟨σc, C1, _, S.step k1 R1, h1, hq.from_ k1⟩⟩
noncomputable def cNil : CTA := fun _ C Q => Q [] C
noncomputable def cCons (a : CTE) (r : CTA) : CTA := fun σ C Q => a σ C fun d C1 => r σ C1 fun ds C2 => Q (d :: ds) C2
variable {cs : CTA}
theorem cpa_nil : CPA X cl H0 C0 [] cNil := pa_nil.imp fun σ H Q ⟨σc, C, Qc, S, h, hq⟩ => hq _ _ _ _ h .nil S.r Keep.refl
theorem cpa_cons (ha : CPE X cl H0 C0 e ca) (hr : CPA X cl H0 C0 es cs) (hs : starEach (e :: es) X.env = (false, eval e X.env) :: starEach es X.env) : CPA X cl H0 C0 (e :: es) (cCons ca cs) :=
  (pa_cons ha hr hs).imp fun σ H Q ⟨σc, C, Qc, S, h, hq⟩ => ⟨σc, C, _, S, h, fun d C1 v H1 h1 rv R1 k1 => ⟨σc, C1, _, S.step k1 R1, h1, fun ds C2 vs H2 h2 rs R2 k2 =>
    hq _ _ _ _ h2 (.cons (rv.keep R1 k2) rs) R2 (k1.trans k2)⟩⟩
noncomputable def oTup : OL := fun ds C Q => ds.length ≤ sizeLine ∧ Q (.tup ds) C
noncomputable def oLst : OL := fun ds C Q => ds.length ≤ sizeLine ∧ ∀ p, C p = none → Q (.ref p) (cup C p (.lst ds))
end
section
variable {K : PySem.W.Frag} {cl : ClsT} {H : Hp} {C : CH}
theorem keep_newH {p : Addr} (hp : H p = none) (o : HO) (R : Rel K cl H C) : Keep H C (upd H p o) C := fun b u h n _ => ⟨by rw [upd_ne (ne_of_none h hp)]; exact h, n⟩
theorem Rd.newH {p : Addr} (hp : H p = none) (o : HO) {a : Addr} {u : HO} (h : Rd H a u) : Rd (upd H p o) a u := by
  rcases h with h | ⟨w, h⟩
  · exact .inl (by rw [upd_ne (ne_of_none h hp)]; exact h)
  · exact .inr ⟨w, by rw [upd_ne (ne_of_none h hp)]; exact h⟩
theorem OkO.newH {p : Addr} (hp : H p = none) (R : Rel K cl H C) (o : HO) {a : Addr} {u : CO} (h : OkO K cl H a u) : OkO K cl (upd H p o) a u := by
  have k := keep_newH hp o R
  cases u with
  | lst ds => obtain ⟨vs, h1, h2⟩ := h; exact ⟨vs, by rw [upd_ne (ne_of_none h1 hp)]; exact h1, h2.keep R k⟩
  | dic ds => obtain ⟨vs, h1, h2⟩ := h; exact ⟨vs, by rw [upd_ne (ne_of_none h1 hp)]; exact h1, h2.keep R k⟩
  | dtk ds => obtain ⟨vs, h1, h2⟩ := h; exact ⟨vs, by rw [upd_ne (ne_of_none h1 hp)]; exact h1, h2.keep R k⟩
  | ins c ds => obtain ⟨Ca, dx, vs, h0, h1, h2⟩ := h; exact ⟨Ca, dx, vs, h0, by rw [upd_ne (ne_of_none h1 hp)]; exact h1, h2.keep R k⟩
theorem Rel.newH {p : Addr} (hp : H p = none) (R : Rel K cl H C) (o : HO) : Rel K cl (upd H p o) C := ⟨fun a u e => (R a u e).newH hp R o, R.tab.new hp⟩
/-- a new object, known to the clean heap too -/
theorem Rel.new {p : Addr} (hp : H p = none) (R : Rel K cl H C) (o : HO) (u : CO) (ok : OkO K cl (upd H p o) p u) : Rel K cl (upd H p o) (cup C p u) := ⟨fun a w e => by
  by_cases h : a = p
  · subst h; rw [cup_same] at e; cases e; exact ok
  · rw [cup_ne h] at e; exact (R a w e).newH hp R o, R.tab.new hp⟩
theorem Keep.new {p : Addr} (hp : H p = none) (R : Rel K cl H C) (o : HO) (u : CO) : Keep H C (upd H p o) (cup C p u) := fun b w h n _ =>
  ⟨by rw [upd_ne (ne_of_none h hp)]; exact h, by rw [cup_ne (ne_of_none h hp)]; exact n⟩
/-- an object of the clean heap is written -/
theorem Keep.write {a : Addr} {u : CO} (e : C a = some u) (o : HO) (u' : CO) : Keep H C (upd H a o) (cup C a u') := fun b w h n _ => by
  have hb : b ≠ a := by intro z; rw [z, e] at n; cases n
  exact ⟨by rw [upd_ne hb]; exact h, by rw [cup_ne hb]; exact n⟩
end
end L3
namespace L3
open PySem L2
section
variable {K : PySem.W.Frag} {cl : ClsT} {H : Hp} {C : CH}
/-- a new tuple at p -/
theorem EndE.tup {Qc : Kv} {Q : VK} {ds : List D} {vs : List V} (h : EndE K cl H C Qc Q) (q : Qc (.tup ds) C) (r : RepL K H ds vs) (R : Rel K cl H C) {p : Addr} (hp : H p = none) : Q (.ref p) (upd H p (.tup vs)) :=
  h _ _ _ _ q (.tup (.inl (.inl upd_same)) (r.keep R (keep_newH hp _ R))) (R.newH hp _) (keep_newH hp _ R)
/-- a new list at p -/
theorem EndE.lst {Qc : Kv} {Q : VK} {ds : List D} {vs : List V} (h : EndE K cl H C Qc Q) (r : RepL K H ds vs) (R : Rel K cl H C) {p : Addr} (hp : H p = none) (q : Qc (.ref p) (cup C p (.lst ds))) : Q (.ref p) (upd H p (.lst vs)) :=
  h _ _ _ _ q (.ref p) (R.new hp _ _ ⟨vs, upd_same, r.keep R (keep_newH hp _ R)⟩) (Keep.new hp R _ _)
theorem Rel.write (R : Rel K cl H C) {a : Addr} {u u' : CO} {o o' : HO} (e : C a = some u) (he : H a = some o) (nt : ∀ vs, ¬ Rd H a (.tup vs)) (ok : OkO K cl (upd H a o') a u') : Rel K cl (upd H a o') (cup C a u') := ⟨fun b w hb => by
  by_cases h : b = a
  · subst h; rw [cup_same] at hb; cases hb; exact ok
  · rw [cup_ne h] at hb
    have k : Keep H C (upd H a o') (cup C a u') := Keep.write e _ _
    have q := R b w hb
    cases w with
    | lst ds => obtain ⟨vs, h1, h2⟩ := q; exact ⟨vs, by rw [upd_ne h]; exact h1, h2.keep R k⟩
    | dic ds => obtain ⟨vs, h1, h2⟩ := q; exact ⟨vs, by rw [upd_ne h]; exact h1, h2.keep R k⟩
    | dtk ds => obtain ⟨vs, h1, h2⟩ := q; exact ⟨vs, by rw [upd_ne h]; exact h1, h2.keep R k⟩
    | ins c ds => obtain ⟨Ca, dx, vs, h0, h1, h2⟩ := q; exact ⟨Ca, dx, vs, h0, by rw [upd_ne h]; exact h1, h2.keep R k⟩, by
  obtain ⟨_, h1, h2, h3⟩ := (R a u e).odd
  exact R.tab.write h1 h2 h3⟩
/-- a list written -/
theorem Rel.wlst (R : Rel K cl H C) {a : Addr} {u : CO} {vs : List V} {ds' : List D} {vs' : List V} (e : C a = some u) (he : H a = some (.lst vs)) (r : RepL K H ds' vs') : Rel K cl (upd H a (.lst vs')) (cup C a (.lst ds')) :=
  R.write e he (fun xs h => by rcases h with h | ⟨z, h⟩ <;> (rw [he] at h; cases h)) ⟨vs', upd_same, r.keep R (Keep.write e _ (.lst ds'))⟩
/-- a list read -/
noncomputable def LsC (C : CH) (p : Addr) (ds : List D) : Prop := C p = some (.lst ds)
theorem Rel.ls (R : Rel K cl H C) {p : Addr} {ds : List D} (h : LsC C p ds) : ∃ vs, SqL K H p vs ∧ RepL K H ds vs := by
  obtain ⟨vs, h1, h2⟩ := R p _ h
  exact ⟨vs, .inl (.inl h1), h2⟩
/-- a sequence read: a tuple or a list -/
noncomputable def SqC (C : CH) (d : D) (ds : List D) : Prop := d = .tup ds ∨ d = .rls ds ∨ ∃ p, d = .ref p ∧ LsC C p ds
theorem Rel.sq (R : Rel K cl H C) {d : D} {v : V} {ds : List D} (h : SqC C d ds) (r : Rep K H d v) : ∃ p vs, v = .ref p ∧ (SqL K H p vs ∨ SqT K H p vs) ∧ RepL K H ds vs := by
  rcases h with rfl | rfl | ⟨p, rfl, h⟩
  · cases r with
    | tup s t => exact ⟨_, _, rfl, .inr s, t⟩
  · cases r with
    | rls s t => exact ⟨_, _, rfl, .inl s.sq, t⟩
  · cases r
    obtain ⟨vs, h1, h2⟩ := R.ls h
    exact ⟨p, vs, rfl, .inl h1, h2⟩
end
section
variable {X : Cx} {cl : ClsT} {H0 : Hp} {C0 : CH} {e : Expr} {es : List Expr} {ca : CTE} {cs : CTA} {pos : Pos}
theorem cpe_tup {x1} (h : CPA X cl H0 C0 es cs) : CPE X cl H0 C0 (.Tuple es x1 pos) (cList oTup cs) :=
  (pe_tup h).imp fun σ H Q ⟨σc, C, Qc, S, h, hq⟩ => ⟨σc, C, _, S, h, fun ds C1 vs H1 ⟨hl, h1⟩ rs R1 k1 => ⟨by rw [← rs.length]; exact hl, fun p hp => (hq.from_ k1).tup h1 rs R1 hp⟩⟩
theorem cpe_lst (h : CPA X cl H0 C0 es cs) : CPE X cl H0 C0 (.List es pos) (cList oLst cs) :=
  (pe_lst h).imp fun σ H Q ⟨σc, C, Qc, S, h, hq⟩ => ⟨σc, C, _, S, h, fun ds C1 vs H1 ⟨hl, h1⟩ rs R1 k1 => ⟨by rw [← rs.length]; exact hl, fun p hp => (hq.from_ k1).lst rs R1 hp (h1 p (free_of R1 hp))⟩⟩
/-- a built-in function called -/
theorem cpe_callB {x : Str} {id : String} {p : Pos} {r : List V → Hp → VK → Prop} {o : OL} (hc : CallR X (.builtin id) r) (l : LkL X.K cl r o) (hg : Gl X x) (hm : X.mg x = none) (hv : bootBuiltins x = some (.builtin id)) (ha : CPA X cl H0 C0 (e :: es) cs) (hn : x ≠ "__name__") (hdb : (x == ("__debug__" : Str)) = false)
    (he : starEach (e :: es) X.env = (false, eval e X.env) :: starEach es X.env) (hpl : (backTo pos (starEach es X.env)).any (·.1) = false) : CPE X cl H0 C0 (.Call (.Name x p) (e :: es) [] pos) (cList o cs) :=
  (pe_callB hc hg hm hv ha hn hdb he hpl).imp fun σ H Q ⟨σc, C, Qc, S, h, hq⟩ => ⟨σc, C, _, S, h, fun ds C1 vs H1 h1 rs R1 k1 => l H1 C1 ds vs Q Qc rs R1 h1 (hq.from_ k1)⟩
theorem cpe_callTy {x : Str} {T : String} {p : Pos} {r : List V → Hp → VK → Prop} {o : OL} (hc : CallR X (.type T) r) (l : LkL X.K cl r o) (hg : Gl X x) (hm : X.mg x = none) (hv : bootBuiltins x = some (.type T)) (ha : CPA X cl H0 C0 (e :: es) cs) (hn : x ≠ "__name__") (hdb : (x == ("__debug__" : Str)) = false)
    (he : starEach (e :: es) X.env = (false, eval e X.env) :: starEach es X.env) (hpl : (backTo pos (starEach es X.env)).any (·.1) = false) : CPE X cl H0 C0 (.Call (.Name x p) (e :: es) [] pos) (cList o cs) :=
  (pe_callTy hc hg hm hv ha hn hdb he hpl).imp fun σ H Q ⟨σc, C, Qc, S, h, hq⟩ => ⟨σc, C, _, S, h, fun ds C1 vs H1 h1 rs R1 k1 => l H1 C1 ds vs Q Qc rs R1 h1 (hq.from_ k1)⟩
end
section
variable {K : PySem.W.Frag} {cl : ClsT}
theorem Lk2.or {r r' : R2} {o o' : O2} (h : Lk2 K cl r o) (h' : Lk2 K cl r' o') : Lk2 K cl (fun x y H Q => r x y H Q ∨ r' x y H Q) (fun x y C Q => o x y C Q ∨ o' x y C Q) := fun H C d e v u Q Qc rd re R q hq =>
  q.elim (fun q => .inl (h H C d e v u Q Qc rd re R q hq)) fun q => .inr (h' H C d e v u Q Qc rd re R q hq)
theorem LkL.or {r r' : List V → Hp → VK → Prop} {o o' : OL} (h : LkL K cl r o) (h' : LkL K cl r' o') : LkL K cl (fun x H Q => r x H Q ∨ r' x H Q) (fun x C Q => o x C Q ∨ o' x C Q) := fun H C ds vs Q Qc rd R q hq =>
  q.elim (fun q => .inl (h H C ds vs Q Qc rd R q hq)) fun q => .inr (h' H C ds vs Q Qc rd R q hq)
theorem RepL.one {H : Hp} {d : D} {vs : List V} (h : RepL K H [d] vs) : ∃ v, vs = [v] ∧ Rep K H d v := by
  cases h with | cons r t => cases t; exact ⟨_, rfl, r⟩
theorem RepL.two {H : Hp} {d e : D} {vs : List V} (h : RepL K H [d, e] vs) : ∃ v u, vs = [v, u] ∧ Rep K H d v ∧ Rep K H e u := by
  cases h with | cons r t => obtain ⟨u, rfl, s⟩ := t.one; exact ⟨_, u, rfl, r, s⟩
/-- + of texts -/
noncomputable def oAddS : O2 := fun x y C Q => ∃ i j, x = .str i ∧ y = .str j ∧ i.length + j.length ≤ sizeLine ∧ Q (.str (i ++ j)) C
theorem lk_addS : Lk2 K cl (fun x y H Q => ∃ i j, x = .str i ∧ y = .str j ∧ i.length + j.length ≤ sizeLine ∧ Q (.str (i ++ j)) H) oAddS := fun H C d e v u Q Qc rd re R ⟨i, j, h1, h2, p, q⟩ hq => by
  subst h1; subst h2
  cases rd; cases re
  exact ⟨i, j, rfl, rfl, p, hq.now q (.str _) R⟩
/-- + of lists that may change -/
noncomputable def oCat : O2 := fun x y C Q => ∃ a b xs ys, x = .ref a ∧ y = .ref b ∧ C a = some (.lst xs) ∧ C b = some (.lst ys) ∧ xs.length + ys.length ≤ sizeLine ∧ ∀ p, C p = none → Q (.ref p) (cup C p (.lst (xs ++ ys)))
theorem lk_cat : Lk2 K cl rCat oCat := fun H C d e v u Q Qc rd re R ⟨a, b, xs, ys, h1, h2, ha, hb, p, q⟩ hq => by
  subst h1; subst h2
  cases rd; cases re
  obtain ⟨vs, e1, r1⟩ := R a _ ha
  obtain ⟨us, e2, r2⟩ := R b _ hb
  exact ⟨a, b, vs, us, rfl, rfl, e1, e2, by rw [← r1.length, ← r2.length]; exact p, fun p hp => hq.lst (r1.append r2) R hp (q p (free_of R hp))⟩
/-- + of tuples -/
noncomputable def oCatT : O2 := fun x y C Q => ∃ xs ys, x = .tup xs ∧ y = .tup ys ∧ xs.length + ys.length ≤ sizeLine ∧ Q (.tup (xs ++ ys)) C
theorem lk_catT : Lk2 K cl (rCatA K) oCatT := fun H C d e v u Q Qc rd re R ⟨xs, ys, h1, h2, p, q⟩ hq => by
  subst h1; subst h2
  cases rd with
  | tup s1 t1 =>
  cases re with
  | tup s2 t2 =>
    refine ⟨_, _, _, _, rfl, rfl, s1, s2, by rw [← t1.length, ← t2.length]; exact p, fun z => ?_, fun z1 z2 => ?_, fun z1 z2 p hp => hq.tup q (t1.append t2) R hp⟩
    · subst z
      cases t1
      exact hq.now q (.tup s2 t2) R
    · subst z2
      cases t2
      rw [List.append_nil] at q
      exact hq.now q (.tup s1 t1) R
/-- items -/
noncomputable def oIx : O2 := fun x y C Q => ∃ ds i d, SqC C x ds ∧ y = .int i ∧ atI ds i = some d ∧ Q d C
theorem RepL.atI {H : Hp} {ds : List D} {vs : List V} {i : Int} {d : D} (h : RepL K H ds vs) (e : atI ds i = some d) : ∃ v, L2.atI vs i = some v ∧ Rep K H d v := by
  unfold L2.atI at e ⊢
  rw [← h.length]
  cases hb : ixN ds.length i with
  | none => rw [hb] at e; cases e
  | some j => rw [hb] at e; exact h.get e
theorem lk_ix : Lk2 K cl (fun x y H Q => rIxL K x y H Q ∨ rIxT K x y H Q) oIx := fun H C d e v u Q Qc rd re R ⟨ds, i, z, h1, h2, h3, q⟩ hq => by
  subst h2
  cases re
  obtain ⟨p, vs, rfl, h, r⟩ := R.sq h1 rd
  obtain ⟨w, e1, r1⟩ := r.atI h3
  rcases h with h | h
  · exact .inl ⟨p, vs, i, w, rfl, rfl, h, e1, hq.now q r1 R⟩
  · exact .inr ⟨p, vs, i, w, rfl, rfl, h, e1, hq.now q r1 R⟩
noncomputable def oIxS : O2 := fun x y C Q => ∃ z i c, x = .str z ∧ y = .int i ∧ z.length ≤ sizeLine ∧ atI z.cps.toList i = some c ∧ Q (.str ⟨#[c]⟩) C
theorem lk_ixS : Lk2 K cl rIxS oIxS := fun H C d e v u Q Qc rd re R ⟨z, i, c, h1, h2, h3, h4, q⟩ hq => by
  subst h1; subst h2
  cases rd; cases re
  exact ⟨z, i, c, rfl, rfl, h3, h4, hq.now q (.str _) R⟩
noncomputable def keyD : D → Option Key
  | .int i => some (.inl i)
  | .str x => some (.inr x)
  | _ => none
noncomputable def valC (kvs : List (Key × D)) (k : Key) : Option D := (kvs.find? fun kv => decide (kv.1 = k)).map (·.2)
noncomputable def putC (kvs : List (Key × D)) (k : Key) (v : D) : List (Key × D) := if (kvs.any fun kv => decide (kv.1 = k)) = true then kvs.map (fun kv => if kv.1 = k then (kv.1, v) else kv) else kvs ++ [(k, v)]
theorem keyD_rep {H : Hp} {d : D} {v : V} {k : Key} (h : keyD d = some k) (r : Rep K H d v) : v = kV k := by
  cases r <;> simp [keyD] at h <;> subst h <;> rfl
theorem RepF.val {H : Hp} {kvs : List (Key × D)} {vs : List (Key × V)} (h : RepF K H kvs vs) (k : Key) : (∀ d, valC kvs k = some d → ∃ v, valV vs k = some v ∧ Rep K H d v) ∧ (valC kvs k = none → valV vs k = none) := by
  unfold valC valV
  induction h with
  | nil => exact ⟨fun d e => by simp at e, fun _ => rfl⟩
  | @cons k' d' v' ds vs r t ih =>
    by_cases hk : k' = k
    · subst hk
      simp only [List.find?_cons, decide_true, Option.map_some]
      exact ⟨fun d e => ⟨v', rfl, by cases e; exact r⟩, fun e => nomatch e⟩
    · simp only [List.find?_cons, decide_eq_false hk]
      exact ih
noncomputable def oGet : O2 := fun x y C Q => ∃ a kvs k d, x = .ref a ∧ C a = some (.dic kvs) ∧ keyD y = some k ∧ valC kvs k = some d ∧ Q d C
noncomputable def rGetV : R2 := fun x y H Q => ∃ a v, x = .ref a ∧ DGet H a y (some v) ∧ Q v H
theorem lk_get : Lk2 K cl rGetV oGet := fun H C d e v u Q Qc rd re R ⟨a, kvs, k, z, h1, h2, h3, h4, q⟩ hq => by
  subst h1
  cases rd
  obtain ⟨vs, e1, r1⟩ := R a _ h2
  obtain ⟨w, e2, r2⟩ := (r1.val k).1 z h4
  have e3 := keyD_rep h3 re
  subst e3
  exact ⟨a, w, rfl, by rw [← e2]; exact DGet.k e1, hq.now q r2 R⟩
theorem _root_.L2.ix_dict {X : Cx} (hu : X.A.units + 1 < cLine) : IxR X rGetV := by
  intro value slice pins s σ H x y v u Q I rx ry h hs
  obtain ⟨a, w, rfl, g, q⟩ := h
  cases rx
  exact PyProof.Rows.tail_any (dict_typeIs I g) PySem.F.slot_dict_getitem.lookup (d_getItem hu I g ry fun w' s' I' r' => ⟨w, H, I', r', q⟩) hs
noncomputable def oLen : OL := fun xs C Q => ∃ x, xs = [x] ∧ ((∃ ds, SqC C x ds ∧ Q (.int ds.length) C) ∨ (∃ z, x = .str z ∧ z.length ≤ sizeLine ∧ Q (.int z.length) C))
theorem lk_len : LkL K cl (fun xs H Q => (∃ p ys, xs = [.ref p] ∧ (SqL K H p ys ∨ SqT K H p ys) ∧ Q (.int ys.length) H) ∨ (∃ z, xs = [.str z] ∧ z.length ≤ sizeLine ∧ Q (.int z.length) H)) oLen := fun H C ds vs Q Qc rs R ⟨x, h1, h2⟩ hq => by
  subst h1
  obtain ⟨v, rfl, r⟩ := rs.one
  rcases h2 with ⟨ds, h, q⟩ | ⟨z, rfl, h, q⟩
  · obtain ⟨p, vs, rfl, h, rr⟩ := R.sq h r
    exact .inl ⟨p, vs, rfl, h, by rw [← rr.length]; exact hq.now q (.int _) R⟩
  · cases r
    exact .inr ⟨z, rfl, h, hq.now q (.int _) R⟩
/-- int(i), int(flag) -/
noncomputable def oInt : OL := fun xs C Q => (∃ i, xs = [.int i] ∧ Q (.int i) C) ∨ ∃ k, xs = [.bl k] ∧ Q (.int (if k then 1 else 0)) C
theorem lk_int : LkL K cl (fun xs H Q => (∃ i, xs = [.int i] ∧ Q (.int i) H) ∨ ∃ k, xs = [.bl k] ∧ Q (.int (if k then 1 else 0)) H) oInt := fun H C ds vs Q Qc rs R h hq => by
  rcases h with ⟨i, rfl, q⟩ | ⟨k, rfl, q⟩
  · obtain ⟨v, rfl, r⟩ := rs.one
    cases r
    exact .inl ⟨i, rfl, hq.now q (.int _) R⟩
  · obtain ⟨v, rfl, r⟩ := rs.one
    cases r
    exact .inr ⟨k, rfl, hq.now q (.int _) R⟩
/-- tuple(a list or tuple) -/
noncomputable def oTuple : OL := fun xs C Q => ∃ x ds, xs = [x] ∧ SqC C x ds ∧ Q (.tup ds) C
theorem lk_tuple : LkL K cl (fun xs H Q => ∃ p ys, xs = [.ref p] ∧ ((SqL K H p ys ∧ ∀ l, H l = none → Q (.ref l) (upd H l (.tup ys))) ∨ (SqT K H p ys ∧ Q (.ref p) H))) oTuple := fun H C ds vs Q Qc rs R ⟨x, es, h1, h2, q⟩ hq => by
  subst h1
  obtain ⟨v, rfl, r⟩ := rs.one
  obtain ⟨p, us, rfl, h, rr⟩ := R.sq h2 r
  refine ⟨p, us, rfl, ?_⟩
  rcases h with h | h
  · exact .inl ⟨h, fun l hl => hq.tup q rr R hl⟩
  · exact .inr ⟨h, hq.now q (.tup h rr) R⟩
/-- all, any of a list of bools -/
noncomputable def oAll (f : List Bool → D) : OL := fun xs C Q => ∃ (p : Addr) (bs : List Bool), xs = [.ref p] ∧ LsC C p (bs.map D.bl) ∧ Q (f bs) C
theorem RepL.bls {H : Hp} : ∀ {bs : List Bool} {vs : List V}, RepL K H (bs.map D.bl) vs → vs = bs.map V.bl
  | [], _, .nil => rfl
  | b :: bs, _, .cons r t => by cases r; rw [RepL.bls t]; rfl
theorem RepL.ints {H : Hp} : ∀ {bs : List Int} {vs : List V}, RepL K H (bs.map D.int) vs → vs = bs.map V.int
  | [], _, .nil => rfl
  | b :: bs, _, .cons r t => by cases r; rw [RepL.ints t]; rfl
theorem RepL.strs {H : Hp} : ∀ {bs : List Str} {vs : List V}, RepL K H (bs.map D.str) vs → vs = bs.map V.str
  | [], _, .nil => rfl
  | b :: bs, _, .cons r t => by cases r; rw [RepL.strs t]; rfl
noncomputable def oMaxL : OL := fun xs C Q => ∃ (p : Addr) (ns : List Int) (m : Int), xs = [.ref p] ∧ LsC C p (ns.map D.int) ∧ 0 < ns.length ∧ m ∈ ns ∧ (∀ y, y ∈ ns → y ≤ m) ∧ Q (.int m) C
theorem lk_maxL : LkL K cl (rMax K) oMaxL := fun H C ds vs Q Qc rs R ⟨p, ns, m, h1, h2, h3, h4, h5, q⟩ hq => by
  subst h1
  obtain ⟨v, rfl, r⟩ := rs.one
  cases r
  obtain ⟨us, e1, r1⟩ := R.ls h2
  have e2 := r1.ints
  subst e2
  refine ⟨p, ns, rfl, e1, h3, fun m' hm' hle => ?_⟩
  have e3 : m' = m := Int.le_antisymm (h5 m' hm') (hle m h4)
  subst e3
  exact hq.now q (.int _) R
noncomputable def oMin2 : OL := fun xs C Q => ∃ i j, xs = [.int i, .int j] ∧ Q (.int (if j < i then j else i)) C
theorem lk_min2 : LkL K cl (fun xs H Q => ∃ i j, xs = [.int i, .int j] ∧ Q (.int (if j < i then j else i)) H) oMin2 := fun H C ds vs Q Qc rs R ⟨i, j, h1, q⟩ hq => by
  subst h1
  obtain ⟨v, u, rfl, r1, r2⟩ := rs.two
  cases r1; cases r2
  exact ⟨i, j, rfl, hq.now q (.int _) R⟩
noncomputable def oAbs : OL := fun xs C Q => ∃ i, xs = [.int i] ∧ Q (.int (if i < 0 then -i else i)) C
theorem lk_abs : LkL K cl (fun xs H Q => ∃ i, xs = [.int i] ∧ Q (.int (if i < 0 then -i else i)) H) oAbs := fun H C ds vs Q Qc rs R ⟨i, h1, q⟩ hq => by
  subst h1
  obtain ⟨v, rfl, r1⟩ := rs.one
  cases r1
  exact ⟨i, rfl, hq.now q (.int _) R⟩
mutual
inductive Snap (C : CH) : D → PyData → Prop
  | non : Snap C .non .none
  | bl (b : Bool) : Snap C (.bl b) (.bool b)
  | int (i : Int) : Snap C (.int i) (.int i)
  | str (x : Str) : Snap C (.str x) (.str x)
  | tup {ds : List D} {ps : List PyData} : SnapL C ds ps → Snap C (.tup ds) (.tuple ps)
  | rls {ds : List D} {ps : List PyData} : SnapL C ds ps → Snap C (.rls ds) (.list ps)
  | lst {p : Addr} {ds : List D} {ps : List PyData} : LsC C p ds → SnapL C ds ps → Snap C (.ref p) (.list ps)
inductive SnapL (C : CH) : List D → List PyData → Prop
  | nil : SnapL C [] []
  | cons {d : D} {ds : List D} {p : PyData} {ps : List PyData} : Snap C d p → SnapL C ds ps → SnapL C (d :: ds) (p :: ps)
end
mutual
theorem Snap.dp {H : Hp} {C : CH} (R : Rel K cl H C) : ∀ {d : D} {p : PyData} {v : V}, Snap C d p → Rep K H d v → Dp K H v p
  | _, _, _, .non, .non => .non
  | _, _, _, .bl _, .bl _ => .bl _
  | _, _, _, .int _, .int _ => .int _
  | _, _, _, .str _, .str _ => .str _
  | _, _, _, .tup t, .tup s r => .tup s (SnapL.dp R t r)
  | _, _, _, .rls t, .rls s r => .lst s.sq (SnapL.dp R t r)
  | _, _, _, .lst h t, .ref _ => by
    obtain ⟨vs, h1, h2⟩ := R.ls h
    exact .lst h1 (SnapL.dp R t h2)
theorem SnapL.dp {H : Hp} {C : CH} (R : Rel K cl H C) : ∀ {d : List D} {p : List PyData} {v : List V}, SnapL C d p → RepL K H d v → DpAll K H v p
  | _, _, _, .nil, .nil => .nil
  | _, _, _, .cons a b, .cons r s => .cons (Snap.dp R a r) (SnapL.dp R b s)
end
/-- in, not in a list of anything -/
noncomputable def oInD (f : Bool → Bool) : O2 := fun x y C Q => ∃ a p ds ps, y = .ref a ∧ LsC C a ds ∧ Snap C x p ∧ SnapL C ds ps ∧ SeqAt.shaped p = true ∧ SeqAt.shaped (.list ps) = true ∧ Q (.bl (f (ps.any fun z => PyData.eqv z p))) C
theorem lk_inD : Lk2 K cl (rInD K) (oInD id) := fun H C d e v u Q Qc rd re R ⟨a, p, ds, ps, h1, h2, h3, h4, h5, h6, h7⟩ hq => by
  subst h1
  exact ⟨p, ps, h3.dp R rd, (Snap.lst h2 h4).dp R re, h5, h6, hq.now h7 (.bl _) R⟩
/-- in, not in a list or tuple of flat things -/
noncomputable def flatD : D → Bool
  | .non | .bl _ | .int _ | .str _ => true
  | _ => false
noncomputable def toV : D → V
  | .non => .non
  | .bl b => .bl b
  | .int i => .int i
  | .str x => .str x
  | _ => .non
theorem flat_rep {H : Hp} {d : D} {v : V} (r : Rep K H d v) (f : flatD d = true) : v = toV d ∧ flatV v = true := by
  cases r <;> first | exact ⟨rfl, rfl⟩ | (simp [flatD] at f)
theorem flat_reps {H : Hp} : ∀ {ds : List D} {vs : List V}, RepL K H ds vs → ds.all flatD = true → vs = ds.map toV ∧ vs.all flatV = true
  | _, _, .nil, _ => ⟨rfl, rfl⟩
  | _, _, .cons r t, f => by
    rw [List.all_cons, Bool.and_eq_true] at f
    obtain ⟨e1, f1⟩ := flat_rep r f.1
    obtain ⟨e2, f2⟩ := flat_reps t f.2
    refine ⟨by rw [e1, e2]; rfl, ?_⟩
    rw [List.all_cons, f1, f2]; rfl
noncomputable def oInF (f : Bool → Bool) : O2 := fun x y C Q => ∃ ds, SqC C y ds ∧ flatD x = true ∧ ds.all flatD = true ∧ Q (.bl (f (inV (toV x) (ds.map toV)))) C
theorem lk_inF : Lk2 K cl (rIn K false) (oInF id) := fun H C d e v u Q Qc rd re R ⟨ds, h1, h2, h3, q⟩ hq => by
  obtain ⟨p, vs, rfl, h, rr⟩ := R.sq h1 re
  obtain ⟨e1, f1⟩ := flat_rep rd h2
  obtain ⟨e2, f2⟩ := flat_reps rr h3
  exact ⟨p, vs, rfl, h, f1, f2, hq.now (by rw [e1, e2]; exact q) (.bl _) R⟩
/-- one sign in a text -/
noncomputable def oInS (f : Bool → Bool) : O2 := fun x y C Q => ∃ (c : Nat) (z : Str), x = .str ⟨#[c]⟩ ∧ y = .str z ∧ Q (.bl (f (decide (c ∈ z.cps.toList)))) C
theorem lk_inS : Lk2 K cl (fun x y H Q => ∃ (c : Nat) (z : Str), x = .str ⟨#[c]⟩ ∧ y = .str z ∧ Q (.bl (decide (c ∈ z.cps.toList))) H) (oInS id) := fun H C d e v u Q Qc rd re R ⟨c, z, h1, h2, q⟩ hq => by
  subst h1; subst h2
  cases rd; cases re
  exact ⟨c, z, rfl, rfl, hq.now q (.bl _) R⟩
theorem lk_notInS : Lk2 K cl (fun x y H Q => ∃ (c : Nat) (z : Str), x = .str ⟨#[c]⟩ ∧ y = .str z ∧ Q (.bl (!decide (c ∈ z.cps.toList))) H) (oInS not) := fun H C d e v u Q Qc rd re R ⟨c, z, h1, h2, q⟩ hq => by
  subst h1; subst h2
  cases rd; cases re
  exact ⟨c, z, rfl, rfl, hq.now q (.bl _) R⟩
/-- is None, is not None -/
noncomputable def isNon : D → Bool
  | .non => true
  | _ => false
noncomputable def oIs (f : Bool → Bool) : O2 := fun x y C Q => y = .non ∧ Q (.bl (f (isNon x))) C
theorem isNon_rep {H : Hp} {d : D} {v : V} (r : Rep K H d v) : decide (v = .non) = isNon d := by cases r <;> rfl
theorem lk_is : Lk2 K cl (fun x y H Q => y = .non ∧ Q (.bl (decide (x = .non))) H) (oIs id) := fun H C d e v u Q Qc rd re R ⟨h, q⟩ hq => by
  subst h
  cases re
  exact ⟨rfl, hq.now (by rw [isNon_rep rd]; exact q) (.bl _) R⟩
theorem lk_isnot : Lk2 K cl (fun x y H Q => y = .non ∧ Q (.bl (!decide (x = .non))) H) (oIs not) := fun H C d e v u Q Qc rd re R ⟨h, q⟩ hq => by
  subst h
  cases re
  exact ⟨rfl, hq.now (by rw [isNon_rep rd]; exact q) (.bl _) R⟩
end
end L3
namespace L3
open PySem L2
section
variable {X : Cx} {cl : ClsT} {H0 : Hp} {C0 : CH} {e st : Expr} {s1 : Stmt} {rest : List Stmt} {ca : CTE} {ct : CTT} {c d : CTS} {pos : Pos}
noncomputable def sNext : CTS := fun D σ C => D.nx σ C
noncomputable def sSeq (c d : CTS) : CTS := fun D σ C => c { D with nx := d D } σ C
theorem EndS.seq {K : PySem.W.Frag} {H : Hp} {C : CH} {σ : St} {σc : Env3} {Dc : EndsC} {D : Ends} (hq : EndS K cl H C Dc D) (S : Keep H0 C0 H C) : EndS K cl H C { Dc with nx := d Dc } { D with nx := tS K cl H0 C0 d D } :=
  ⟨fun σc' C' σ' H' q r R k => ⟨σc', C', Dc, ⟨r, R, S.trans k⟩, q, hq.from_ k⟩, hq.rt, hq.bk, hq.ct⟩
theorem cpss_nil : CPSs X cl H0 C0 [] sNext := pss_nil.imp fun D σ H ⟨σc, C, Dc, S, h, hq⟩ => hq.nx _ _ _ _ h S.s S.r Keep.refl
theorem cpss_cons (h1 : CPS X cl H0 C0 s1 c) (h2 : CPSs X cl H0 C0 rest d) : CPSs X cl H0 C0 (s1 :: rest) (sSeq c d) :=
  (pss_cons h1 h2).imp fun D σ H ⟨σc, C, Dc, S, h, hq⟩ => ⟨σc, C, _, S, h, hq.seq (σ := σ) (σc := σc) S.f⟩
noncomputable def sBreak : CTS := fun D σ C => D.bk σ C
noncomputable def sCont : CTS := fun D σ C => D.ct σ C
theorem cps_pass : CPS X cl H0 C0 (.Pass pos) sNext := ps_pass.imp fun D σ H ⟨σc, C, Dc, S, h, hq⟩ => hq.nx _ _ _ _ h S.s S.r Keep.refl
theorem cps_cont : CPS X cl H0 C0 (.Continue pos) sCont := ps_continue.imp fun D σ H ⟨σc, C, Dc, S, h, hq⟩ => hq.ct _ _ _ _ h S.s S.r Keep.refl
noncomputable def sDrop (a : CTE) : CTS := fun D σ C => a σ C fun _ C1 => D.nx σ C1
theorem cps_expr (he : CPE X cl H0 C0 e ca) (hs : swapsWith e none pos.line X.env = pure false) : CPS X cl H0 C0 (.Expr e pos) (sDrop ca) :=
  (ps_expr he hs).imp fun D σ H ⟨σc, C, Dc, S, h, hq⟩ => ⟨σc, C, _, S, h, fun d C1 v H1 h1 rv R1 k1 => hq.nx _ _ _ _ h1 (S.s.keep S.r k1) R1 k1⟩
noncomputable def sRet (a : CTE) : CTS := fun D σ C => a σ C D.rt
theorem cps_ret (he : CPE X cl H0 C0 e ca) : CPS X cl H0 C0 (.Return (some e) pos) (sRet ca) :=
  (ps_ret he).imp fun D σ H ⟨σc, C, Dc, S, h, hq⟩ => ⟨σc, C, _, S, h, hq.rt⟩
noncomputable def sRetN : CTS := fun D _ C => D.rt .non C
noncomputable def sIf (t : CTT) (c d : CTS) : CTS := fun D σ C => t σ C fun b C1 => if b = true then c D σ C1 else d D σ C1
theorem cps_if {a b : List Stmt} (ht : CPT X cl H0 C0 e ct) (ha : CPSs X cl H0 C0 a c) (hb : CPSs X cl H0 C0 b d) : CPS X cl H0 C0 (.If e a b pos) (sIf ct c d) :=
  (ps_if ht ha hb).imp fun D σ H ⟨σc, C, Dc, S, h, hq⟩ => ⟨σc, C, _, S, h, fun z C1 H1 h1 R1 k1 => by
    cases z with
    | true => exact iteT ⟨σc, C1, Dc, S.step k1 R1, h1, hq.from_ k1⟩
    | false => exact iteF ⟨σc, C1, Dc, S.step k1 R1, h1, hq.from_ k1⟩⟩
noncomputable def sNever : CTS := fun _ _ _ => False
theorem cps_never : CPS X cl H0 C0 s1 sNever := ps_never.imp fun D σ H ⟨σc, C, Dc, S, h, hq⟩ => h
end
noncomputable abbrev CTG := D → Env3 → CH → (Env3 → CH → Prop) → Prop
noncomputable def tG (K : PySem.W.Frag) (cl : ClsT) (g : CTG) : TG := fun v σ H Q => ∃ d σc C Qc, Rep K H d v ∧ RepS K H σc σ ∧ Rel K cl H C ∧ g d σc C Qc ∧ EndN K cl H C Qc Q
theorem _root_.L2.PG.imp {X : Cx} {e : Expr} {t t' : TG} (h : PG X e t) (i : ∀ v σ H Q, t' v σ H Q → t v σ H Q) : PG X e t' := ⟨fun pins s σ H v u Q I r q => h.run pins s σ H v u Q I r (i _ _ _ _ q)⟩
theorem _root_.L2.PGs.imp {X : Cx} {e : List Expr} {t t' : TGs} (h : PGs X e t) (i : ∀ v σ H Q, t' v σ H Q → t v σ H Q) : PGs X e t' := ⟨fun pins s σ H v u Q I r q => h.run pins s σ H v u Q I r (i _ _ _ _ q)⟩
noncomputable def CPG (X : Cx) (cl : ClsT) (e : Expr) (g : CTG) : Prop := PG X e (tG X.K cl g)
section
variable {X : Cx} {cl : ClsT} {H0 : Hp} {C0 : CH} {pos : Pos}
/-- target = value -/
noncomputable def sAsg (a : CTE) (g : CTG) : CTS := fun D σ C => a σ C fun d C1 => g d σ C1 D.nx
theorem tAsg_of {ca : CTE} {g : CTG} : ∀ D σ H, tS X.K cl H0 C0 (sAsg ca g) D σ H → tAsg (tE X.K cl H0 C0 ca) (tG X.K cl g) D σ H := fun D σ H ⟨σc, C, Dc, S, h, hq⟩ =>
  ⟨σc, C, _, S, h, fun d C1 v H1 h1 rv R1 k1 => ⟨d, σc, C1, _, rv, S.s.keep S.r k1, R1, h1, hq.nx.from_ k1⟩⟩
theorem cps_asg {tg e : Expr} {ca : CTE} {g : CTG} (he : CPE X cl H0 C0 e ca) (hg : CPG X cl tg g) (hs : swapsWithSole [tg] e pos.line X.env = pure false) (hw : swappedStores [tg] e X.env = pure none)
    (h1 : (assignEach [tg] X.env).map (·.2) = [assign tg X.env]) : CPS X cl H0 C0 (.Assign [tg] e pos) (sAsg ca g) := (ps_asg he hg hs hw h1).imp tAsg_of
/-- a, b = x, y with plain local names -/
noncomputable def sPar (i j : Nat) (a : CTA) : CTS := fun D σ C => a σ C fun ds C1 => ∃ d e, ds = [d, e] ∧ D.nx ((σ.set i (some d)).set j (some e)) C1
/-- o[i] = v -/
noncomputable abbrev O3 := D → D → D → CH → (CH → Prop) → Prop
noncomputable def LkSet (K : PySem.W.Frag) (cl : ClsT) (r : TSet) (o : O3) : Prop := ∀ H C d e z v u w Q Qc, Rep K H d v → Rep K H e u → Rep K H z w → Rel K cl H C → o d e z C Qc → (∀ C' H', Qc C' → Rel K cl H' C' → Keep H C H' C' → Q H') → r v u w H Q
noncomputable def sSet (a o i : CTE) (f : O3) : CTS := fun D σ C => a σ C fun z C1 => o σ C1 fun d C2 => i σ C2 fun e C3 => f d e z C3 fun C4 => D.nx σ C4
theorem cps_sub {o i e : Expr} {co ci ca : CTE} {r : TSet} {f : O3} {pos' : Pos} (ho : CPE X cl H0 C0 o co) (hi : CPE X cl H0 C0 i ci) (he : CPE X cl H0 C0 e ca) (hset : PSet X r) (l : LkSet X.K cl r f)
    (ha : ∀ v, assign (.Subscript o i pos') X.env v = (do
      let ov ← holding [v] (eval o X.env)
      let iv ← holding [v, ov] (eval i X.env)
      standAt pos'
      holding [v, ov, iv] (setItem ov iv v)
      release [v, ov, iv] []))
    (hs : swapsWithSole [.Subscript o i pos'] e pos.line X.env = pure false) (hw : swappedStores [.Subscript o i pos'] e X.env = pure none)
    (h1 : (assignEach [.Subscript o i pos'] X.env).map (·.2) = [assign (.Subscript o i pos') X.env]) : CPS X cl H0 C0 (.Assign [.Subscript o i pos'] e pos) (sSet ca co ci f) :=
  (ps_asg he (pg_sub ho hi hset ha) hs hw h1).imp fun D σ H ⟨σc, C, Dc, S, h, hq⟩ =>
    ⟨σc, C, _, S, h, fun z C1 w H1 h1 rz R1 k1 => ⟨σc, C1, _, S.step k1 R1, h1, fun d C2 v H2 h2 rd R2 k2 => ⟨σc, C2, _, (S.step k1 R1).step k2 R2, h2, fun e C3 u H3 h3 re R3 k3 =>
      l H3 C3 d e z v u w _ _ (rd.keep R2 k3) re ((rz.keep R1 k2).keep R2 k3) R3 h3 fun C4 H4 h4 R4 k4 => hq.nx _ _ _ _ h4 ((((S.step k1 R1).step k2 R2).step k3 R3).step k4 R4).s R4 (((k1.trans k2).trans k3).trans k4)⟩⟩⟩
noncomputable def oSetL : O3 := fun x y z C Q => ∃ p ds i j, x = .ref p ∧ y = .int i ∧ C p = some (.lst ds) ∧ ixN ds.length i = some j ∧ Q (cup C p (.lst (ds.set j z)))
theorem lk_setL {K : PySem.W.Frag} : LkSet K cl rSetL oSetL := fun H C d e z v u w Q Qc rd re rz R ⟨p, ds, i, j, h1, h2, h3, h4, q⟩ hq => by
  subst h1; subst h2
  cases rd; cases re
  obtain ⟨vs, e1, r1⟩ := R p _ h3
  exact ⟨p, vs, i, j, rfl, rfl, e1, by rw [← r1.length]; exact h4, hq _ _ q (R.wlst h3 e1 (r1.set rz j)) (Keep.write h3 _ _)⟩
end
section
variable {K : PySem.W.Frag} {cl : ClsT} {H : Hp} {C : CH}
theorem RepF.put {kvs : List (Key × D)} {vs : List (Key × V)} (h : RepF K H kvs vs) (k : Key) {d : D} {v : V} (r : Rep K H d v) : RepF K H (putC kvs k d) (putK vs k v) := by
  have e : (vs.any fun kv => decide (kv.1 = k)) = (kvs.any fun kv => decide (kv.1 = k)) := by
    induction h with
    | nil => rfl
    | cons r' t ih => rw [List.any_cons, List.any_cons, ih]
  unfold putC putK
  rw [e]
  split
  · clear e
    rename_i hc
    clear hc
    induction h with
    | nil => exact .nil
    | @cons k' d' v' ds' vs' r' t ih =>
      rw [List.map_cons, List.map_cons]
      by_cases hk : k' = k
      · rw [if_pos hk, if_pos hk]; exact .cons r ih
      · rw [if_neg hk, if_neg hk]; exact .cons r' ih
  · clear e
    rename_i hc
    clear hc
    induction h with
    | nil => exact .cons r .nil
    | cons r' t ih => exact .cons r' ih
noncomputable def oSetD : O3 := fun x y z C Q => ∃ p kvs k, x = .ref p ∧ C p = some (.dic kvs) ∧ keyD y = some k ∧ kvs.length < sizeLine ∧ Q (cup C p (.dic (putC kvs k z)))
theorem lk_setD : LkSet K cl rSetD oSetD := fun H C d e z v u w Q Qc rd re rz R ⟨p, kvs, k, h1, h2, h3, h4, q⟩ hq => by
  subst h1
  cases rd
  obtain ⟨vs, e1, r1⟩ := R p _ h2
  have e3 := keyD_rep h3 re
  subst e3
  refine ⟨p, _, rfl, DPut.k e1 (by rw [← r1.length]; exact h4), hq _ _ q (R.write h2 e1 (fun xs h => by rcases h with h | ⟨z, h⟩ <;> (rw [e1] at h; cases h)) ⟨_, upd_same, (r1.put k rz).keep R (Keep.write h2 _ (.dic (putC kvs k z)))⟩) (Keep.write h2 _ _)⟩
end
/-- what an iterable yields: the items from turn 0, while the guard stands -/
noncomputable abbrev CTI := Env3 → CH → (List D → (CH → Prop) → CH → Prop) → Prop
/-- the iterator J yields ds while the guard stands -/
structure ItOk (K : PySem.W.Frag) (cl : ClsT) (H0 : Hp) (C0 : CH) (J : It) (ds : List D) (G : CH → Prop) : Prop where
  go : ∀ (i : Nat) (H : Hp) (C : CH), Keep H0 C0 H C → Rel K cl H C → G C → i < ds.length → J.go i H
  yld : ∀ (i : Nat) (H : Hp) (C : CH) (x : V) (H' : Hp), Keep H0 C0 H C → Rel K cl H C → G C → J.yld i H x H' → ∀ d, ds[i]? = some d → Rep K H' d x ∧ Rel K cl H' C ∧ Keep H C H' C
  stop : ∀ (i : Nat) (H : Hp) (C : CH), Keep H0 C0 H C → Rel K cl H C → G C → ds.length ≤ i → J.stop i H
noncomputable def tI (K : PySem.W.Frag) (cl : ClsT) (H0 : Hp) (C0 : CH) (c : CTI) : TI := fun σ H R => ∃ σc C Qc, S3 K cl H0 C0 σ H σc C ∧ c σc C Qc ∧ ∀ ds G C1 H1 J, Qc ds G C1 → Rel K cl H1 C1 → Keep H C H1 C1 → ItOk K cl H1 C1 J ds G → R J H1
theorem _root_.L2.PI.imp {X : Cx} {tg e : Expr} {t t' : TI} (h : PI X tg e t) (i : ∀ σ H Q, t' σ H Q → t σ H Q) : PI X tg e t' := ⟨fun pins s σ H Q I q => h.run pins s σ H Q I (i _ _ _ q)⟩
noncomputable def CPI (X : Cx) (cl : ClsT) (H0 : Hp) (C0 : CH) (tg e : Expr) (c : CTI) : Prop := PI X tg e (tI X.K cl H0 C0 c)
/-- for: one turn after another -/
noncomputable def forL (g : CTG) (b : CTS) (G : CH → Prop) (E : EndsC) : List D → Env3 → CH → Prop
  | [], σ, C => G C ∧ E.nx σ C
  | d :: r, σ, C => G C ∧ g d σ C fun σ1 C1 => b { E with nx := forL g b G E r, ct := forL g b G E r, bk := E.nx } σ1 C1
noncomputable def sFor (it : CTI) (g : CTG) (b : CTS) : CTS := fun D σ C => it σ C fun ds G C1 => forL g b G D ds σ C1
section
variable {X : Cx} {cl : ClsT} {H0 : Hp} {C0 : CH} {pos : Pos}
theorem cps_for {tg iter : Expr} {body : List Stmt} {it : CTI} {g : CTG} {b : CTS} (hp : PassesOwn (model X.prog X.w) X.A X.env X.xe) (hc : X.calm = true) (hi : CPI X cl H0 C0 tg iter it) (hg : CPG X cl tg g) (hb : CPSs X cl H0 C0 body b)
    (hs : ∀ x, foldedSetIterable iter X.env x = pure x) : CPS X cl H0 C0 (.For tg iter body [] pos) (sFor it g b) :=
  (ps_for hp hc hi hg hb hs).imp fun D σ H ⟨σc, C, Dc, S, h, hq⟩ => ⟨σc, C, _, S, h, fun ds G C1 H1 J h1 R1 k1 ok => by
    refine ⟨fun i m σ' H' => m = ds.length - i ∧ i ≤ ds.length ∧ ∃ σc' C', RepS X.K H' σc' σ' ∧ Rel X.K cl H' C' ∧ Keep H1 C1 H' C' ∧ forL g b G Dc (ds.drop i) σc' C', ⟨ds.length, by simp, Nat.zero_le _, σc, C1, S.s.keep S.r k1, R1, Keep.refl, h1⟩, ?_⟩
    rintro i m σ' H' ⟨rfl, hi, σc', C', s', R', k', hl⟩
    by_cases hlt : i < ds.length
    · rw [List.drop_eq_getElem_cons hlt] at hl
      obtain ⟨hG, hl⟩ := hl
      refine .inr ⟨ok.go i H' C' k' R' hG hlt, fun σ2 H2 => ∃ σc2 C2, RepS X.K H2 σc2 σ2 ∧ Rel X.K cl H2 C2 ∧ Keep H1 C1 H2 C2 ∧ forL g b G Dc (ds.drop (i + 1)) σc2 C2, fun σ2 H2 ⟨σc2, C2, s2, R2, k2, l2⟩ => ⟨ds.length - (i + 1), by omega, rfl, hlt, σc2, C2, s2, R2, k2, l2⟩, fun x H2 hy => ?_⟩
      obtain ⟨rx, R2, k2⟩ := ok.yld i H' C' x H2 k' R' hG hy _ (List.getElem?_eq_getElem hlt)
      refine ⟨_, σc', C', _, rx, s'.keep R' k2, R2, hl, fun σc3 C3 σ3 H3 h3 s3 R3 k3 => ?_⟩
      have kk : Keep H C H3 C3 := ((k1.trans k').trans k2).trans k3
      refine ⟨σc3, C3, _, ⟨s3, R3, S.f.trans kk⟩, h3, ?_⟩
      have again : EndN X.K cl H3 C3 (forL g b G Dc (ds.drop (i + 1))) fun σ2 H2 => ∃ σc2 C2, RepS X.K H2 σc2 σ2 ∧ Rel X.K cl H2 C2 ∧ Keep H1 C1 H2 C2 ∧ forL g b G Dc (ds.drop (i + 1)) σc2 C2 :=
        fun σc4 C4 σ4 H4 h4 s4 R4 k4 => ⟨σc4, C4, s4, R4, ((k'.trans k2).trans k3).trans k4, h4⟩
      exact ⟨again, hq.rt.from_ kk, hq.nx.from_ kk, again⟩
    · have e : ds.drop i = [] := List.drop_eq_nil_of_le (by omega)
      rw [e] at hl
      exact .inl ⟨ok.stop i H' C' k' R' hl.1 (by omega), hq.nx _ _ _ _ hl.2 s' R' (k1.trans k')⟩⟩
/-- while: at most m turns -/
noncomputable def whileN (t : CTT) (b : CTS) (D : EndsC) : Nat → Env3 → CH → Prop
  | 0, _, _ => False
  | m + 1, σ, C => t σ C fun k C1 => if k = true then b { D with nx := whileN t b D m, ct := whileN t b D m, bk := D.nx } σ C1 else D.nx σ C1
noncomputable def sWhile (t : CTT) (b : CTS) : CTS := fun D σ C => ∃ m, whileN t b D m σ C
theorem cps_while {e : Expr} {body : List Stmt} {t : CTT} {b : CTS} (hp : PassesOwn (model X.prog X.w) X.A X.env X.xe) (ht : CPT X cl H0 C0 e t) (hb : CPSs X cl H0 C0 body b) : CPS X cl H0 C0 (.While e body [] pos) (sWhile t b) :=
  (ps_while hp ht hb).imp fun D σ H ⟨σc, C, Dc, S, ⟨m0, h⟩, hq⟩ => by
    refine ⟨fun m σ' H' => ∃ σc' C', RepS X.K H' σc' σ' ∧ Rel X.K cl H' C' ∧ Keep H C H' C' ∧ whileN t b Dc m σc' C', ⟨m0, σc, C, S.s, S.r, Keep.refl, h⟩, ?_⟩
    rintro m σ' H' ⟨σc', C', s', R', k', hl⟩
    cases m with
    | zero => exact hl.elim
    | succ m =>
      refine ⟨σc', C', _, ⟨s', R', S.f.trans k'⟩, hl, fun z C1 H1 h1 R1 k1 => ?_⟩
      have kk := k'.trans k1
      cases z with
      | true =>
        refine iteT ⟨fun σ2 H2 => ∃ σc2 C2, RepS X.K H2 σc2 σ2 ∧ Rel X.K cl H2 C2 ∧ Keep H C H2 C2 ∧ whileN t b Dc m σc2 C2, fun σ2 H2 h2 => ⟨m, Nat.lt_succ_self m, h2⟩, ?_⟩
        have again : EndN X.K cl H1 C1 (whileN t b Dc m) fun σ2 H2 => ∃ σc2 C2, RepS X.K H2 σc2 σ2 ∧ Rel X.K cl H2 C2 ∧ Keep H C H2 C2 ∧ whileN t b Dc m σc2 C2 :=
          fun σc4 C4 σ4 H4 h4 s4 R4 k4 => ⟨σc4, C4, s4, R4, kk.trans k4, h4⟩
        exact ⟨σc', C1, _, ⟨s'.keep R' k1, R1, S.f.trans kk⟩, h1, ⟨again, hq.rt.from_ kk, hq.nx.from_ kk, again⟩⟩
      | false => exact iteF (hq.nx _ _ _ _ h1 (s'.keep R' k1) R1 kk)
end
section
variable {X : Cx} {cl : ClsT} {H0 : Hp} {C0 : CH} {pos : Pos}
/-- a list (as it stands), a tuple -/
noncomputable def iSeq (a : CTE) : CTI := fun σ C R => a σ C fun d C1 => ∃ ds, ((d = .tup ds ∨ d = .rls ds) ∧ R ds (fun _ => True) C1) ∨ (∃ p, d = .ref p ∧ LsC C1 p ds ∧ R ds (fun C => LsC C p ds) C1)
theorem itOk_tup {K : PySem.W.Frag} {a : Addr} {ds : List D} {vs : List V} {H : Hp} {C : CH} (s : SqT K H a vs) (r : RepL K H ds vs) (R : Rel K cl H C) : ItOk K cl H C (Itt K a) ds (fun _ => True) where
  go := fun i H' C' k R' _ hi => by
    obtain ⟨v, e, _⟩ := r.get (List.getElem?_eq_getElem hi)
    exact ⟨vs, v, SqT.keep R k s, e⟩
  yld := fun i H' C' x H'' k R' _ ⟨e, y⟩ d hd => by
    subst e
    obtain ⟨v, e, rv⟩ := r.get hd
    have := y vs (SqT.keep R k s)
    rw [e] at this; cases this
    exact ⟨rv.keep R k, R', Keep.refl⟩
  stop := fun i H' C' k R' _ hi => ⟨vs, SqT.keep R k s, by rw [← r.length]; exact hi⟩
theorem itOk_lst' {K : PySem.W.Frag} {p : Addr} {ds : List D} {H : Hp} {C : CH} : ItOk K cl H C (Itl K p) ds (fun C => LsC C p ds) where
  go := fun i H' C' k R' hG hi => by
    obtain ⟨vs, s, r⟩ := R'.ls hG
    obtain ⟨v, e, _⟩ := r.get (List.getElem?_eq_getElem hi)
    exact ⟨vs, v, s, e⟩
  yld := fun i H' C' x H'' k R' hG ⟨e, y⟩ d hd => by
    subst e
    obtain ⟨vs, s, r⟩ := R'.ls hG
    obtain ⟨v, e, rv⟩ := r.get hd
    have := y vs s
    rw [e] at this; cases this
    exact ⟨rv, R', Keep.refl⟩
  stop := fun i H' C' k R' hG hi => by
    obtain ⟨vs, s, r⟩ := R'.ls hG
    exact ⟨vs, s, by rw [← r.length]; exact hi⟩
theorem itOk_rls {X : Cx} {pins : List (Addr × Obj)} {σ : St} {H : Hp} {C : CH} {s : Shared} {a : Addr} {ds : List D} {vs : List V} (I : Inv X pins σ H s) (q : RlS X.K H a vs) (r : RepL X.K H ds vs) (R : Rel X.K cl H C) : ItOk X.K cl H C (Itl X.K a) ds (fun _ => True) where
  go := fun i H' C' k R' _ hi => by
    obtain ⟨v, e, _⟩ := r.get (List.getElem?_eq_getElem hi)
    exact ⟨vs, v, (q.keep R k).sq, e⟩
  yld := fun i H' C' x H'' k R' _ ⟨e, y⟩ d hd => by
    subst e
    obtain ⟨v, e, rv⟩ := r.get hd
    have := y vs (q.keep R k).sq
    rw [e] at this; cases this
    exact ⟨rv.keep R k, R', Keep.refl⟩
  stop := fun i H' C' k R' _ hi => ⟨vs, (q.keep R k).sq, by rw [← r.length]; exact hi⟩
theorem _root_.L2.PI.or {X : Cx} {tg e : Expr} {te : TE} {a b : V → Hp → (It → Hp → Prop) → Prop} (h : PI X tg e (fun σ H R => te σ H fun x H1 => a x H1 R)) (h' : PI X tg e (fun σ H R => te σ H fun x H1 => b x H1 R))
    (he : PE X e te) (hv : ∀ (pins : List (Addr × Obj)) (s : Shared) (σ : St) (H : Hp) (x : V) (u : Value) (R : It → Hp → Prop), Inv X pins σ H s → RelV x u → (a x H R ∨ b x H R) → wpAny (model X.prog X.w) X.A (pyIter u) (PIE X pins σ tg R) X.xe s) :
    PI X tg e (fun σ H R => te σ H fun x H1 => a x H1 R ∨ b x H1 R) :=
  ⟨fun pins s σ H R I h => thn (he.run pins s σ H _ I h) fun u s1 ⟨x, H1, I1, r1, q1⟩ => hv pins s1 σ H1 x u R I1 r1 q1⟩
theorem iter_list {tg : Expr} {pins : List (Addr × Obj)} {s : Shared} {σ : St} {H : Hp} {R : It → Hp → Prop} {a : Addr} {xs : List V} (I : Inv X pins σ H s) (hq : SqL X.K H a xs) (q : R (Itl X.K a) H) : wpAny (model X.prog X.w) X.A (pyIter (.ref a)) (PIE X pins σ tg R) X.xe s := by
  obtain ⟨its, rv, p, hz⟩ := I.list hq
  refine wpAny_pyIter_list p.isList ?_
  refine ⟨s.heap.objs.size, [s.heap.objs.size], _, _, H, rfl, I.kept (t' := s.toks) fun b o e => Heap.get?_push_of_some _ e, turn_list a _, ⟨_, Heap.get?_push_size _ rfl, rfl, rfl⟩, fun b hb => ?_, q⟩
  have e : b = s.heap.objs.size := by simpa using hb
  subst e
  exact I.fpOk (Nat.le_refl _) (I.hok.fresh (Nat.le_refl _))
theorem iter_tup {tg : Expr} {pins : List (Addr × Obj)} {s : Shared} {σ : St} {H : Hp} {R : It → Hp → Prop} {a : Addr} {xs : List V} (I : Inv X pins σ H s) (hq : SqT X.K H a xs) (q : R (Itt X.K a) H) : wpAny (model X.prog X.w) X.A (pyIter (.ref a)) (PIE X pins σ tg R) X.xe s := by
  obtain ⟨its, rv, p, hz⟩ := I.tuple hq
  refine wpAny_pyIter_tuple (show s.heap.IsTuple a its.toArray from p) ?_
  refine ⟨s.heap.objs.size, [s.heap.objs.size], _, _, H, rfl, I.kept (t' := s.toks) fun b o e => Heap.get?_push_of_some _ e, turn_tuple a _, ⟨_, Heap.get?_push_size _ rfl, rfl, rfl⟩, fun b hb => ?_, q⟩
  have e : b = s.heap.objs.size := by simpa using hb
  subst e
  exact I.fpOk (Nat.le_refl _) (I.hok.fresh (Nat.le_refl _))
theorem cpi_seq {tg e : Expr} {ca : CTE} (he : CPE X cl H0 C0 e ca) : CPI X cl H0 C0 tg e (iSeq ca) := ⟨fun pins s σ H R I ⟨σc, C, Qc, S, h, hq⟩ =>
  thn (he.run pins s σ H (fun v H1 => ∃ d C1 ds, Rep X.K H1 d v ∧ Rel X.K cl H1 C1 ∧ Keep H C H1 C1 ∧ (((d = .tup ds ∨ d = .rls ds) ∧ Qc ds (fun _ => True) C1) ∨ (∃ p, d = .ref p ∧ LsC C1 p ds ∧ Qc ds (fun C => LsC C p ds) C1))) I
    ⟨σc, C, _, S, h, fun d C1 v H1 ⟨ds, h1⟩ rv R1 k1 => ⟨d, C1, ds, rv, R1, k1, h1⟩⟩) fun u s1 ⟨v, H1, I1, r1, d, C1, ds, rv, R1, k1, h1⟩ => by
    rcases h1 with ⟨rfl | rfl, q⟩ | ⟨p, rfl, hl, q⟩
    · cases rv with
      | tup sq rr =>
        cases r1
        exact iter_tup I1 sq (hq _ _ _ _ _ q R1 k1 (itOk_tup sq rr R1))
    · cases rv with
      | rls sq rr =>
        cases r1
        exact iter_list I1 sq.sq (hq _ _ _ _ _ q R1 k1 (itOk_rls I1 sq rr R1))
    · cases rv
      cases r1
      obtain ⟨vs, sq, rr⟩ := R1.ls hl
      exact iter_list I1 sq (hq _ _ _ _ _ q R1 k1 itOk_lst')⟩
/-- a text, sign by sign -/
noncomputable def iTxt (a : CTE) : CTI := fun σ C R => a σ C fun d C1 => ∃ z, d = .str z ∧ R (z.cps.toList.map fun c => .str ⟨#[c]⟩) (fun _ => True) C1
theorem cpi_txt {tg e : Expr} {ca : CTE} (he : CPE X cl H0 C0 e ca) : CPI X cl H0 C0 tg e (iTxt ca) :=
  (pi_str he).imp fun σ H R ⟨σc, C, Qc, S, h, hq⟩ => ⟨σc, C, _, S, h, fun d C1 v H1 ⟨z, h1, q⟩ rv R1 k1 => by
    subst h1
    cases rv
    refine ⟨z, rfl, hq _ _ _ _ _ q R1 k1 ⟨fun i H' C' k R' _ hi => ?_, fun i H' C' x H'' k R' _ ⟨e, c, hc, hx⟩ d hd => ?_, fun i H' C' k R' _ hi => ?_⟩⟩
    · show i < z.cps.size
      simpa using hi
    · subst e; subst hx
      rw [List.getElem?_map, Array.getElem?_toList, hc] at hd
      cases hd
      exact ⟨.str _, R', Keep.refl⟩
    · show z.cps.size ≤ i
      simpa using hi⟩
/-- range -/
noncomputable def rngD (lo : Int) (n : Nat) : List D := (List.range n).map fun (i : Nat) => .int (lo + i)
noncomputable def iRg1 (a : CTA) : CTI := fun σ C R => a σ C fun ds C1 => ∃ j : Int, ds = [.int j] ∧ -(2 ^ 62) ≤ j ∧ j < 2 ^ 62 ∧ R (rngD 0 j.toNat) (fun _ => True) C1
theorem itOk_rng {K : PySem.W.Frag} {lo : Int} {n : Nat} {H : Hp} {C : CH} : ItOk K cl H C (Itr lo n) (rngD lo n) (fun _ => True) where
  go := fun i H' C' k R' _ hi => by
    show i < n
    simpa [rngD] using hi
  yld := fun i H' C' x H'' k R' _ ⟨e, y⟩ d hd => by
    subst e; subst y
    unfold rngD at hd
    rw [List.getElem?_map] at hd
    cases q : (List.range n)[i]? with
    | none => rw [q] at hd; cases hd
    | some j =>
      rw [q] at hd
      have hj : j = i := by
        obtain ⟨hl, e⟩ := List.getElem?_eq_some_iff.mp q
        rw [List.getElem_range] at e
        exact e.symm
      subst hj
      cases hd
      exact ⟨.int _, R', Keep.refl⟩
  stop := fun i H' C' k R' _ hi => by
    show n ≤ i
    simpa [rngD] using hi
theorem cpi_rg1 {tg a : Expr} {ca : CTA} {p pos : Pos} (hg : Gl X "range") (hm : X.mg "range" = none) (ha : CPA X cl H0 C0 [a] ca) (hs : starEach [a] X.env = [(false, eval a X.env)]) : CPI X cl H0 C0 tg (.Call (.Name "range" p) [a] [] pos) (iRg1 ca) :=
  (pi_range1 hg hm ha hs).imp fun σ H R ⟨σc, C, Qc, S, h, hq⟩ => ⟨σc, C, _, S, h, fun ds C1 vs H1 ⟨j, h1, h2, h3, q⟩ rs R1 k1 => by
    subst h1
    obtain ⟨v, rfl, r⟩ := rs.one
    cases r
    exact ⟨j, rfl, h2, h3, hq _ _ _ _ _ q R1 k1 itOk_rng⟩⟩
end
end L3
namespace L3
open PySem L2 PyProof.Rows
structure Room (k : Nat) (A : Around) : Prop where
  hd : A.handled = none
  dp : A.depth + k + 40 < recursionLimit
  un : A.units + 8 * k + 600 < cLine
theorem Room.mono {j k : Nat} {A : Around} (r : Room k A) (h : j ≤ k) : Room j A := ⟨r.hd, by have := r.dp; omega, by have := r.un; omega⟩
theorem Room.deeper {k : Nat} {A : Around} (r : Room (k + 1) A) (env : Env) : Room k (A.deeper env) :=
  ⟨r.hd, by have := r.dp; show A.depth + 1 + k + 40 < _; omega, by have := r.un; show A.units + 3 + 8 * k + 600 < _; omega⟩
theorem Room.make {k : Nat} {A : Around} (r : Room (k + 1) A) (C : Addr) (us : List Value) (kw : List (Str × Value)) : Room k (A.under (.builtin "type.__call__" ⟨.ref C :: us, kw⟩)) :=
  ⟨r.hd, by have := r.dp; rw [make_depth]; omega, by have := r.un; rw [make_units]; omega⟩
theorem Room.depth {k : Nat} {A : Around} (r : Room k A) : A.depth < recursionLimit := by have := r.dp; omega
theorem Room.units {k : Nat} {A : Around} (r : Room k A) : A.units + 64 < cLine := by have := r.un; omega
theorem hu_of {A : Around} {k : Nat} (r : Room k A) : A.units + 1 < cLine := by have := r.un; omega
section
variable {P : Program} {w : World} {K : PySem.W.Frag} {mg : Str → Option Value} {base : Heap} {CXx : CXT} {k : Nat} {f : Addr} {fd : FuncData} {ps : List Str} {sp : Sp}
structure FnOkG (P : Program) (w : World) (K : PySem.W.Frag) (mg : Str → Option Value) (base : Heap) (CXx : CXT) (k : Nat) (f : Addr) (fd : FuncData) (ps : List Str) (sp : Sp) : Prop where
  len : ∀ vs H Q E, sp vs H Q E → vs.length = ps.length
  run : ∀ (A : Around) (out : List Env) (s : Shared) (H : Hp) (as : Args) (us : List Value) (vs : List V) (Q : VK) (E : XK), Room k A → A.guards = some [] →
    Env0 P w K mg base A out s H → BindsTo s fd as (ps.zip us) → Vals vs us → sp vs H Q E → codeAny (model P w) A (.call (.ref f) as) (CR CXx out P w H s Q E) s
theorem FnOkG.imp {sp' : Sp} (F : FnOkG P w K mg base CXx k f fd ps sp) (h : ∀ vs H Q E, sp' vs H Q E → sp vs H Q E) : FnOkG P w K mg base CXx k f fd ps sp' :=
  ⟨fun _ _ _ _ q => F.len _ _ _ _ (h _ _ _ _ q), fun A out s H as us vs Q E hr hg e0 hb hv q => F.run A out s H as us vs Q E hr hg e0 hb hv (h _ _ _ _ q)⟩
/-- a def runs, its body told of the very state -/
theorem run_ofG {name qual : Str} {params : Arguments} {body : List Stmt} {scope : Scope} {dV kV doc pm cdv ct oc : Value} {an od : Option Addr} {osl : Array (Option Value)} {N : List Str}
    (lk : K.lookup f = some ⟨oc, od, .func (PySem.W.fnOf name qual params body scope dV kV doc pm an cdv ct), osl⟩) (hcd : PySem.W.codeIn K cdv qual = true) (S : FnScope N ps scope)
    {A : Around} {out : List Env} {s : Shared} {H : Hp} {as : Args} {us : List Value} {vs : List V} {Q : VK} {E : XK} (room : Room (k + 1) A) (e0 : Env0 P w K mg base A out s H) (bind : BindsTo s (PySem.W.fnOf name qual params body scope dV kV doc pm an cdv ct) as (ps.zip us)) (rv : Vals vs us) (len : vs.length = ps.length)
    (hb : Room k (A.deeper (envOfC qual scope s.heap.objs.size f cdv)) → ∃ t, PSs (cxOf CXx P w K mg base N qual scope f cdv A out s H E) body t ∧ t { nx := fun _ H' => Q .non H', rt := Q } (start N vs) H) :
    codeAny (model P w) A (.call (.ref f) as) (CR CXx out P w H s Q E) s := by
  have inK := e0.mod.kin.keeps fun b o q => (e0.bs b o q).1
  have noLim := e0.mod.nolimit.keeps fun b o q => (e0.bs b o q).1
  have kinds : ∀ y ∈ ps.zip us, scope.names.lookup y.1 = some .local ∨ (scope.names.lookup y.1 = some .cell ∧ ((cellsFrom (s.heap.objs.size + 1) scope.names []).lookup y.1).isSome = true) := by
    rintro ⟨n, v⟩ hy
    refine (S.par n (List.of_mem_zip hy).1).imp id fun q => ⟨q, ?_⟩
    exact PySem.W.cellsFrom_some _ _ _ (.inl q)
  refine codeAny_call_function room.depth (inK _ _ lk) rfl S.co S.gen rfl (PySem.W.codeRec_of inK hcd) (bind _ _ _ _ (wpAny_newFunctionEnv_cells S.kind kinds fun env he s1 x => ?_))
  subst he
  obtain ⟨t, ht, hq⟩ := hb (room.deeper _)
  refine ⟨noLim.keeps x.toInCall.keep, codeAny_func (wpAny_mono (ht.run [] s1 _ H _ (inv_start S room.hd e0 len rv x) hq) (fun fl s' hs => ?_) fun e s' hs => hs)⟩
  cases fl with
  | next =>
    obtain ⟨σ', H', J, q⟩ := hs
    exact ⟨V.non, H', J.os, J.bare, J.base, J.hok, rfl, q⟩
  | ret u =>
    obtain ⟨v, σ', H', J, rv', q⟩ := hs
    exact ⟨v, H', J.os, J.bare, J.base, J.hok, rv', q⟩
  | brk => exact hs.elim fun _ h => h.elim fun _ h => h.2.elim
  | cont => exact hs.elim fun _ h => h.elim fun _ h => h.2.elim
/-- the rule for a def, by its body -/
theorem fn_ofG {name qual : Str} {params : Arguments} {body : List Stmt} {scope : Scope} {dV kV doc pm cdv ct oc : Value} {an od : Option Addr} {osl : Array (Option Value)} {N : List Str}
    (lk : K.lookup f = some ⟨oc, od, .func (PySem.W.fnOf name qual params body scope dV kV doc pm an cdv ct), osl⟩) (hcd : PySem.W.codeIn K cdv qual = true) (S : FnScope N ps scope) (len : ∀ vs H Q E, sp vs H Q E → vs.length = ps.length)
    (hb : ∀ (A : Around) (out : List Env) (s : Shared) (H : Hp) (vs : List V) (Q : VK) (E : XK), Room k (A.deeper (envOfC qual scope s.heap.objs.size f cdv)) → A.guards = some [] → sp vs H Q E →
      ∃ t, PSs (cxOf CXx P w K mg base N qual scope f cdv A out s H E) body t ∧ t { nx := fun _ H' => Q .non H', rt := Q } (start N vs) H) :
    FnOkG P w K mg base CXx (k + 1) f (PySem.W.fnOf name qual params body scope dV kV doc pm an cdv ct) ps sp := ⟨len, fun A out s H as us vs Q E room hg e0 bind rv hsp => run_ofG lk hcd S room e0 bind rv (len _ _ _ _ hsp) fun hr => hb A out s H vs Q E hr hg hsp⟩
end
end L3
namespace L3
open PySem L2
noncomputable def notStar : Expr → Bool
  | .Starred .. => false
  | _ => true
theorem star_of {e : Expr} {es : List Expr} {env : Env} (h : notStar e = true) : starEach (e :: es) env = (false, eval e env) :: starEach es env := by
  cases e <;> first | rfl | cases h
theorem star_any {env : Env} {pos : Pos} : ∀ {es : List Expr}, es.all notStar = true → (backTo pos (starEach es env)).any (·.1) = false
  | [], _ => rfl
  | e :: es, h => by
    rw [List.all_cons, Bool.and_eq_true] at h
    rw [star_of h.1]
    show (false || (backTo pos (starEach es env)).any (·.1)) = false
    rw [star_any h.2]; rfl
/-- the keywords' names: all are written -/
noncomputable def kwNames : List Keyword → Option (List Str)
  | [] => some []
  | ⟨some n, _, _⟩ :: r => (kwNames r).map (n :: ·)
  | _ => none
theorem kw_ok {env : Env} {pos : Pos} : ∀ {kws : List Keyword} {ks : List Str}, kwNames kws = some ks → (backToKw pos (keywordEach kws env)).all (·.1.isSome) = true ∧ (backToKw pos (keywordEach kws env)).filterMap (·.1) = ks ∧ (backToKw pos (keywordEach kws env)).any (·.1.isNone) = false
  | [], _, h => by cases h; exact ⟨rfl, rfl, rfl⟩
  | ⟨none, _, _⟩ :: _, _, h => by cases h
  | ⟨some n, v, p⟩ :: r, ks, h => by
    obtain ⟨ks', h1, h2⟩ := Option.map_eq_some_iff.mp (show (kwNames r).map (n :: ·) = some ks from h)
    obtain ⟨a, b, c⟩ := kw_ok (env := env) (pos := pos) h1
    subst h2
    refine ⟨?_, ?_, ?_⟩
    · show (true && (backToKw pos (keywordEach r env)).all (·.1.isSome)) = true
      rw [a]; rfl
    · show n :: (backToKw pos (keywordEach r env)).filterMap (·.1) = n :: ks'
      rw [b]
    · show (false || (backToKw pos (keywordEach r env)).any (·.1.isNone)) = false
      rw [c]; rfl
/-- what the arguments and keywords give -/
noncomputable def tArgs (es : List Expr) (t tk : TA) : St → Hp → (List V → List V → Hp → Prop) → Prop := fun σ H Q => match es with
  | [] => tk σ H fun zs H2 => Q [] zs H2
  | _ :: _ => t σ H fun vs H1 => tk σ H1 fun zs H2 => Q vs zs H2
section
variable {X : Cx} {cl : ClsT} {H0 : Hp} {C0 : CH}
theorem call_args {fv : Value} {first : List Value} {es : List Expr} {kws : List Keyword} {ks : List Str} {t tk : TA} {pos : Pos} {pins : List (Addr × Obj)} {s : Shared} {σ : St} {H : Hp} {Q : Value → Shared → Prop}
    (hk : PySem.W.keepIn X.K fv = true) (hes : es.all notStar = true) (hks : kwNames kws = some ks) (ha : PA X es t) (hkw : PK X kws tk) (I : Inv X pins σ H s)
    (h : tArgs es t tk σ H fun vs zs H2 => ∀ s2 us ws, Inv X pins σ H2 s2 → Vals vs us → Vals zs ws → wpAny (model X.prog X.w) X.A (call fv (first ++ us) (ks.zip ws)) Q X.xe s2) :
    wpAny (model X.prog X.w) X.A (callWith pos fv first (backTo pos (starEach es X.env)) (backToKw pos (keywordEach kws X.env))) Q X.xe s := by
  obtain ⟨k1, k2, k3⟩ := kw_ok (env := X.env) (pos := pos) hks
  have hpl : ((backTo pos (starEach es X.env)).any (·.1) || (backToKw pos (keywordEach kws X.env)).any (·.1.isNone)) = false := by rw [star_any hes, k3]; rfl
  cases es with
  | nil =>
    refine PySem.W.callWith_KW0 (h₀ := X.base) I.ok.mod.kin hk k1 ?_ hpl
    refine thn (hkw.run pos pins s σ H _ I h) fun ws s2 ⟨zs, H2, I2, rz, q2⟩ => ⟨I2.kIn, ?_⟩
    rw [k2]
    exact q2 s2 [] ws I2 .nil rz
  | cons e rest =>
    rw [List.all_cons, Bool.and_eq_true] at hes
    refine PySem.W.callWith_KW (h₀ := X.base) I.ok.mod.kin hk k1 (thn (ha.run pos pins s σ H _ I h) fun us s1 ⟨vs, H1, I1, r, q⟩ => ?_) hpl (star_of hes.1)
    refine thn (hkw.run pos pins s1 σ H1 _ I1 q) fun ws s2 ⟨zs, H2, I2, rz, q2⟩ => ⟨I2.kIn, ?_⟩
    rw [k2]
    exact q2 s2 us ws I2 r rz
/-- a def runs at values, what it raises is wished for at the slots -/
theorem run_at {k : Nat} {f : Addr} {fd : FuncData} {ps : List Str} {sp : Sp} {E : St → XK} {CX : CXT} {pins : List (Addr × Obj)} {σ : St} {H : Hp} {s : Shared} {Q : VK} {args : Args} {us : List Value} {vs : List V} (F : FnOkG X.prog X.w X.K X.mg X.base CX k f fd ps sp) (hr : Room k X.A) (hg : X.A.guards = some [])
    (hb : BindsTo s fd args (ps.zip us)) (hx : PassesAt CX X σ (E σ)) (I : Inv X pins σ H s) (r : Vals vs us) (h : sp vs H Q (E σ)) : wpAny (model X.prog X.w) X.A (call (.ref f) args.pos args.kw) (EP X pins σ Q) X.xe s := by
  refine wpAny_call (codeAny_mono (F.run X.A X.stack s H args us vs Q (E σ) hr hg I.env0 hb r h) fun res s' hq => ?_)
  match res, hq with
  | .error e, hq => exact hx pins H s e s' I hq
  | .ok (.ret u), hq => exact I.after hq
end
noncomputable abbrev SemF := List D → CH → Kv → Kx → Prop
noncomputable def spC (K : PySem.W.Frag) (cl : ClsT) (np : Nat) (sem : SemF) : Sp := fun vs H Q E => ∃ ds C Qc Ec, RepL K H ds vs ∧ ds.length = np ∧ Rel K cl H C ∧ sem ds C Qc Ec ∧ EndE K cl H C Qc Q ∧
  (∀ x C' cls d H', Ec x C' → XRel K cl H' x cls d → Rel K cl H' C' → Keep H C H' C' → E cls d H')
/-- where a parameter's value comes from: the j-th positional value, the j-th keyword's, a default -/
inductive Src where
  | pos (j : Nat) | kw (j : Nat) | dfl (d : D)
noncomputable def Src.get (ds es : List D) : Src → D
  | .pos j => ds.getD j .non
  | .kw j => es.getD j .non
  | .dfl d => d
noncomputable def gath (g : List Src) (ds es : List D) : List D := g.map (Src.get ds es)
/-- how a def binds such a call: n positional values, keywords ks -/
noncomputable def BindsC (K : PySem.W.Frag) (fd : FuncData) (ps : List Str) (n : Nat) (ks : List Str) (g : List Src) : Prop :=
  ∃ (gv : List Value → List Value → List Value) (gV : List V → List V → List V), (∀ (s : Shared) (us ws : List Value), K.In s.heap → us.length = n → ws.length = ks.length → BindsTo s fd ⟨us, ks.zip ws⟩ (ps.zip (gv us ws))) ∧
    (∀ {vs us zs ws}, Vals vs us → Vals zs ws → Vals (gV vs zs) (gv us ws)) ∧ ∀ H ds vs es zs, ds.length = n → es.length = ks.length → RepL K H ds vs → RepL K H es zs → RepL K H (gath g ds es) (gV vs zs)
section
variable {X : Cx} {cl : ClsT} {H0 : Hp} {C0 : CH}
noncomputable def CPK (X : Cx) (cl : ClsT) (H0 : Hp) (C0 : CH) (kws : List Keyword) (c : CTA) : Prop := PK X kws (tA X.K cl H0 C0 c)
theorem cpk_nil : CPK X cl H0 C0 [] cNil := ⟨fun pos pins s σ H Q I ⟨σc, C, Qc, S, h, hq⟩ => pk_nil.run pos pins s σ H Q I (hq _ _ _ _ h .nil S.r Keep.refl)⟩
theorem cpk_cons {e : Expr} {ca : CTE} {cs : CTA} {kws : List Keyword} {nm : Option Str} {kpos : Pos} (ha : CPE X cl H0 C0 e ca) (hr : CPK X cl H0 C0 kws cs) : CPK X cl H0 C0 (⟨nm, e, kpos⟩ :: kws) (cCons ca cs) :=
  ⟨fun pos pins s σ H Q I ⟨σc, C, Qc, S, h, hq⟩ => (pk_cons ha hr).run pos pins s σ H Q I ⟨σc, C, _, S, h, fun d C1 v H1 h1 rv R1 k1 => ⟨σc, C1, _, S.step k1 R1, h1, fun ds C2 vs H2 h2 rs R2 k2 =>
    hq _ _ _ _ h2 (.cons (rv.keep R1 k2) rs) R2 (k1.trans k2)⟩⟩⟩
/-- both lists of arguments, by data -/
noncomputable def cArgs (a k : CTA) : Env3 → CH → (List D → List D → CH → Prop) → Prop := fun σ C Q => a σ C fun ds C1 => k σ C1 fun es C2 => Q ds es C2
theorem tArgs_of {es : List Expr} {kws : List Keyword} {ca ck : CTA} (h0 : es = [] → ca = cNil) {σ : St} {H : Hp} {σc : Env3} {C : CH} {Qc : List D → List D → CH → Prop} {Q : List V → List V → Hp → Prop} (S : S3 X.K cl H0 C0 σ H σc C) (h : cArgs ca ck σc C Qc)
    (hq : ∀ ds zs C' vs ws H', Qc ds zs C' → RepL X.K H' ds vs → RepL X.K H' zs ws → Rel X.K cl H' C' → Keep H C H' C' → Q vs ws H') : tArgs es (tA X.K cl H0 C0 ca) (tA X.K cl H0 C0 ck) σ H Q := by
  cases es with
  | nil =>
    rw [h0 rfl] at h
    exact ⟨σc, C, _, S, h, fun zs C' ws H' q r R k => hq [] zs C' [] ws H' q .nil r R k⟩
  | cons e es =>
    exact ⟨σc, C, _, S, h, fun ds C1 vs H1 h1 rs R1 k1 => ⟨σc, C1, _, S.step k1 R1, h1, fun zs C2 ws H2 h2 rz R2 k2 => hq ds zs C2 vs ws H2 h2 (rs.keep R1 k2) rz R2 (k1.trans k2)⟩⟩
/-- f(..) of a def -/
noncomputable def cCall (sem : SemF) (np n m : Nat) (g : List Src) (ex : Kxs) (a k : CTA) : CTE := fun σ C Q => cArgs a k σ C fun ds es C1 => ds.length = n ∧ es.length = m ∧ (gath g ds es).length = np ∧ sem (gath g ds es) C1 Q fun x C' => ex x σ C'
theorem cpe_call {k np n : Nat} {f : Addr} {fd : FuncData} {ps ks : List Str} {sem : SemF} {g : List Src} {ex : Kxs} {x : Str} {p pos : Pos} {es : List Expr} {kws : List Keyword} {ca ck : CTA}
    (F : FnOkG X.prog X.w X.K X.mg X.base (L2.CX X.prog X.w) k f fd ps (spC X.K cl np sem)) (hr : Room k X.A) (hgd : X.A.guards = some []) (hg : Gl X x) (hm : X.mg x = some (.ref f)) (hk : PySem.W.keepIn X.K (.ref f) = true) (hb : BindsC X.K fd ps n ks g) (tk : Takes X (WC X.K cl H0 C0 ex))
    (hes : es.all notStar = true) (hks : kwNames kws = some ks) (ha : CPA X cl H0 C0 es ca) (hkw : CPK X cl H0 C0 kws ck) (h0 : es = [] → ca = cNil) (hdb : (x == ("__debug__" : Str)) = false) : CPE X cl H0 C0 (.Call (.Name x p) es kws pos) (cCall sem np n ks.length g ex ca ck) := by
  refine ⟨fun pins s σ H Q I ⟨σc, C, Qc, S, h, hq⟩ => ?_⟩
  refine wpAny_Call_Name_kw (ld_glob I hg hm ?_ hdb)
  obtain ⟨gv, gV, b1, b2, b3⟩ := hb
  refine call_args (first := []) hk hes hks ha hkw I (tArgs_of (kws := kws) h0 S h fun ds zs C' vs ws H' ⟨l1, l2, l3, q⟩ r1 r2 R' k' s2 us ws' I2 rv rw' => ?_)
  have e1 : us.length = n := by rw [← rv.length, ← r1.length, l1]
  have e2 : ws'.length = ks.length := by rw [← rw'.length, ← r2.length, l2]
  exact run_at (args := ⟨us, ks.zip ws'⟩) (E := WE (WC X.K cl H0 C0 ex)) F hr hgd (b1 s2 us ws' I2.kIn e1 e2) (passAt tk σ) I2 (b2 rv rw') ⟨_, C', Qc, _, b3 H' ds vs zs ws l1 l2 r1 r2, l3, R', q, hq.from_ k', fun x C'' cls d H'' hx xr R'' k'' => ⟨x, σc, C'', hx, xr, S.step (k'.trans k'') R''⟩⟩
end
end L3
namespace L3
open PySem L2
inductive CT where
  | nm (i : Nat) | tp (is : List Nat)
noncomputable def CT.slots : CT → List Nat
  | .nm i => [i]
  | .tp is => is
noncomputable def setAll (σ : Env3) : List Nat → List D → Env3
  | i :: is, d :: ds => setAll (σ.set i (some d)) is ds
  | _, _ => σ
noncomputable def setAllV (σ : St) : List Nat → List V → St
  | i :: is, d :: ds => setAllV (σ.set i (some d)) is ds
  | _, _ => σ
noncomputable def bindT (T : CT) (d : D) (σ : Env3) : Option Env3 := match T, d with
  | .nm i, d => some (σ.set i (some d))
  | .tp is, .tup ds => if ds.length = is.length then some (setAll σ is ds) else none
  | _, _ => none
noncomputable def gAll : List Nat → TGs
  | [] => gNil
  | i :: is => gCons (gName i) (gAll is)
noncomputable def tgV (K : PySem.W.Frag) : CT → TG
  | .nm i => gName i
  | .tp is => gTup K is.length (gAll is)
noncomputable def wipe3 (σ : Env3) : List Nat → Env3
  | [] => σ
  | v :: vs => (wipe3 σ vs).set v none
section
variable {K : PySem.W.Frag} {cl : ClsT} {H : Hp} {C : CH}
theorem RepS.wipe {σc : Env3} {σ : St} (h : RepS K H σc σ) : ∀ vs : List Nat, RepS K H (wipe3 σc vs) (L2.wipe σ vs)
  | [] => h
  | v :: vs => RepS.wipe1 v (RepS.wipe h vs)
theorem wipe_set {σ : St} {o : Option V} : ∀ {vs : List Nat} {i : Nat}, i ∈ vs → L2.wipe (σ.set i o) vs = L2.wipe σ vs
  | v :: vs, i, h => by
    show (L2.wipe (σ.set i o) vs).set v none = (L2.wipe σ vs).set v none
    by_cases hv : i ∈ vs
    · rw [wipe_set hv]
    · have e : i = v := by rcases List.mem_cons.mp h with e | e; exact e; exact absurd e hv
      subst e
      have go : ∀ ws : List Nat, i ∉ ws → L2.wipe (σ.set i o) ws = (L2.wipe σ ws).set i o := by
        intro ws
        induction ws with
        | nil => intro _; rfl
        | cons w ws ih =>
          intro hw
          show (L2.wipe (σ.set i o) ws).set w none = ((L2.wipe σ ws).set w none).set i o
          rw [ih (fun z => hw (List.mem_cons_of_mem _ z)), List.set_comm _ _ (fun z => hw (by rw [z]; exact List.mem_cons_self))]
      rw [go vs hv, List.set_set]
theorem setAll_rep : ∀ {is : List Nat} {ds : List D} {vs : List V} {σc : Env3} {σ : St}, RepL K H ds vs → RepS K H σc σ → RepS K H (setAll σc is ds) (setAllV σ is vs)
  | [], _, _, _, _, _, s => by unfold setAll setAllV; exact s
  | _ :: _, _, _, _, _, .nil, s => by unfold setAll setAllV; exact s
  | i :: is, _, _, _, _, .cons r t, s => by
    unfold setAll setAllV
    exact setAll_rep t (s.set r i)
theorem gAll_set : ∀ {is : List Nat} {vs : List V} {σ : St} {Q : St → Hp → Prop}, vs.length = is.length → Q (setAllV σ is vs) H → gAll is vs σ H Q
  | [], vs, σ, Q, h, q => by
    cases vs with
    | nil => exact ⟨rfl, q⟩
    | cons _ _ => cases h
  | i :: is, vs, σ, Q, h, q => by
    cases vs with
    | nil => cases h
    | cons v vs => exact ⟨v, vs, rfl, gAll_set (by simpa using h) q⟩
theorem wipe_setAll : ∀ {is : List Nat} {xs : List V} {σ : St} {vs : List Nat}, (∀ i ∈ is, i ∈ vs) → L2.wipe (setAllV σ is xs) vs = L2.wipe σ vs
  | [], _, _, _, _ => by unfold setAllV; rfl
  | _ :: _, [], _, _, _ => by unfold setAllV; rfl
  | i :: is, x :: xs, σ, vs, h => by
    unfold setAllV
    rw [wipe_setAll fun j hj => h j (List.mem_cons_of_mem _ hj), wipe_set (h i List.mem_cons_self)]
theorem bind_tg {T : CT} {d : D} {v : V} {σc σc' : Env3} {σ : St} (e : bindT T d σc = some σc') (r : Rep K H d v) (s : RepS K H σc σ) :
    ∃ σ', RepS K H σc' σ' ∧ (∀ Q : St → Hp → Prop, Q σ' H → tgV K T v σ H Q) ∧ ∀ vs, (∀ i ∈ T.slots, i ∈ vs) → L2.wipe σ' vs = L2.wipe σ vs := by
  cases T with
  | nm i =>
    cases e
    exact ⟨_, s.set r i, fun Q q => q, fun vs h => wipe_set (h i (by simp [CT.slots]))⟩
  | tp is =>
    cases d with
    | tup ds =>
      by_cases hl : ds.length = is.length
      · rw [show bindT (.tp is) (.tup ds) σc = some (setAll σc is ds) from if_pos hl] at e
        cases e
        cases r with
        | tup sq rr => exact ⟨_, setAll_rep rr s, fun Q q => ⟨_, _, rfl, sq, by rw [← rr.length]; exact hl, gAll_set (by rw [← rr.length]; exact hl) q⟩, fun vs h => wipe_setAll h⟩
      · rw [show bindT (.tp is) (.tup ds) σc = none from if_neg hl] at e
        cases e
    | _ => cases e
end
noncomputable def hT (T : CT) : CTG := fun d σ C Q => ∃ σ', bindT T d σ = some σ' ∧ Q σ' C
theorem cpg_T {X : Cx} {cl : ClsT} {e : Expr} {T : CT} (h : PG X e (tgV X.K T)) : CPG X cl e (hT T) := h.imp fun v σ H Q ⟨d, σc, C, Qc, r, s, R, ⟨σ', e, h⟩, hq⟩ => by
  obtain ⟨σ2, s2, g, _⟩ := bind_tg e r s
  exact g Q (hq _ _ _ _ h s2 R Keep.refl)
theorem pgs_all {X : Cx} (hN : X.N.Nodup) : ∀ {xs : List Expr} {is : List Nat}, xs.length = is.length → (∀ (j : Nat) (e : Expr) (i : Nat), xs[j]? = some e → is[j]? = some i → ∃ x pos, e = .Name x pos ∧ X.N[i]? = some x ∧ Loc X.env.scope x ∧ (X.fn x = true ∨ X.env.scope.names.lookup x = some .local)) → PGs X xs (gAll is)
  | [], is, h, _ => by
    cases is with
    | nil => exact pgs_nil
    | cons _ _ => cases h
  | x :: xs, is, h, hx => by
    cases is with
    | nil => cases h
    | cons i is =>
      obtain ⟨n, pos, rfl, h1, h2, h3⟩ := hx 0 x i rfl rfl
      exact pgs_cons (pg_name hN h1 h2 h3) (pgs_all hN (by simpa using h) fun j e i' a b => hx (j + 1) e i' (by simpa using a) (by simpa using b))
/-- one item after another: the list so far -/
noncomputable def lcL (T : CT) (vs : List Nat) (σ : Env3) (t : CTT) (e : CTE) (G : CH → Prop) (Kq : List D → CH → Prop) : List D → List D → CH → Prop
  | [], acc, C => G C ∧ Kq acc C
  | d :: r, acc, C => G C ∧ ∃ σ2, bindT T d (wipe3 σ vs) = some σ2 ∧ t σ2 C fun b C1 => if b = true then e σ2 C1 fun y C2 => acc.length < sizeLine ∧ lcL T vs σ t e G Kq r (acc ++ [y]) C2 else lcL T vs σ t e G Kq r acc C1
noncomputable def cLc (it : CTI) (T : CT) (vs : List Nat) (t : CTT) (e : CTE) : CTE := fun σ C Q => it σ C fun ds G C1 => lcL T vs σ t e G (fun acc C2 => ∀ p, C2 p = none → Q (.ref p) (cup C2 p (.lst acc))) ds [] C1
noncomputable def cYes : CTT := fun _ C Q => Q true C
section
variable {X : Cx} {cl : ClsT} {H0 : Hp} {C0 : CH}
noncomputable def CPTs (X : Cx) (cl : ClsT) (H0 : Hp) (C0 : CH) (ifs : List Expr) (c : CTT) : Prop := PTs X ifs (tT X.K cl H0 C0 c)
theorem cpts_nil : CPTs X cl H0 C0 [] cYes := ⟨fun pins s σ H Q I ⟨σc, C, Qc, S, h, hq⟩ => pts_nil.run pins s σ H Q I (hq _ _ _ h S.r Keep.refl)⟩
theorem cpts_one {c : Expr} {t : CTT} (h : CPT X cl H0 C0 c t) : CPTs X cl H0 C0 [c] t := pts_one h
theorem tLc_of {it : CTI} {T : CT} {vs : List Nat} {t : CTT} {e : CTE} (hv : ∀ i ∈ T.slots, i ∈ vs) : ∀ σ H Q, tE X.K cl H0 C0 (cLc it T vs t e) σ H Q →
    tLc (tI X.K cl H0 C0 it) (tgV X.K T) (tT X.K cl H0 C0 t) (tE X.K cl H0 C0 e) vs σ H Q := fun σ H Q ⟨σc, C, Qc, S, h, hq⟩ => ⟨σc, C, _, S, h, fun ds G C1 H1 J h1 R1 k1 ok Da hD => by
  have S1 := S.step k1 R1
  -- turn i: the list so far stands at Da, the clean heap does not know it
  refine ⟨fun i m H' => m = ds.length - i ∧ i ≤ ds.length ∧ ∃ C' acc vacc, RepS X.K H' σc σ ∧ Rel X.K cl H' C' ∧ Keep H1 C1 H' C' ∧ H' Da = some (.lst vacc) ∧ C' Da = none ∧ RepL X.K H' acc vacc ∧
      lcL T vs σc t e G (fun acc C2 => ∀ p, C2 p = none → Qc (.ref p) (cup C2 p (.lst acc))) (ds.drop i) acc C',
    ⟨ds.length, by simp, Nat.zero_le _, C1, [], [], S1.s.keep R1 (keep_newH hD _ R1), R1.newH hD _, keep_newH hD _ R1, upd_same, free_of R1 hD, .nil, h1⟩, ?_⟩
  rintro i m H' ⟨rfl, hi, C', acc, vacc, s', R', k', hDa, hCa, ra, hl⟩
  by_cases hlt : i < ds.length
  · rw [List.drop_eq_getElem_cons hlt] at hl
    obtain ⟨hG, σ2c, eb, hl⟩ := hl
    refine .inr ⟨ok.go i H' C' k' R' hG hlt, fun H2 => i + 1 ≤ ds.length ∧ ∃ C2 acc2 vacc2, RepS X.K H2 σc σ ∧ Rel X.K cl H2 C2 ∧ Keep H1 C1 H2 C2 ∧ H2 Da = some (.lst vacc2) ∧ C2 Da = none ∧ RepL X.K H2 acc2 vacc2 ∧
      lcL T vs σc t e G (fun acc C2 => ∀ p, C2 p = none → Qc (.ref p) (cup C2 p (.lst acc))) (ds.drop (i + 1)) acc2 C2, fun H2 ⟨hle, q⟩ => ⟨ds.length - (i + 1), by omega, rfl, hle, q⟩, fun x H2 hy => ?_⟩
    obtain ⟨rx, R2, k2⟩ := ok.yld i H' C' x H2 k' R' hG hy _ (List.getElem?_eq_getElem hlt)
    have s2 := s'.keep R' k2
    obtain ⟨σ2, sb, hb, hw⟩ := bind_tg (K := X.K) eb rx (s2.wipe vs)
    refine hb _ ⟨?_, ?_⟩
    · have e1 := hw vs hv
      have e2 : ∀ (ws : List Nat) (τ : St), (∀ j ∈ ws, j ∈ vs) → L2.wipe (L2.wipe τ ws) vs = L2.wipe τ vs := by
        intro ws
        induction ws with
        | nil => intro τ _; rfl
        | cons w ws ih =>
          intro τ hws
          show L2.wipe ((L2.wipe τ ws).set w none) vs = _
          rw [wipe_set (hws w List.mem_cons_self)]
          exact ih τ fun j hj => hws j (List.mem_cons_of_mem _ hj)
      rw [e1]
      exact e2 vs σ fun _ z => z
    · have kA : Keep H1 C1 H2 C' := k'.trans k2
      have hDa2 : H2 Da = some (.lst vacc) := (k2 Da _ hDa hCa .lst).1
      refine ⟨σ2c, C', _, ⟨sb, R2, (S1.f.trans kA)⟩, hl, fun b C3 H3 h3 R3 k3 => ?_⟩
      have hDa3 := k3 Da _ hDa2 hCa .lst
      cases b with
      | true =>
        refine iteT ⟨σ2c, C3, _, ⟨sb.keep R2 k3, R3, S1.f.trans (kA.trans k3)⟩, h3, fun y C4 v H4 ⟨hsz, h4⟩ rv R4 k4 => ?_⟩
        have hDa4 := k4 Da _ hDa3.1 hDa3.2 .lst
        have r4 : RepL X.K H4 acc vacc := (((ra.keep R' k2).keep R2 k3).keep R3 k4)
        refine ⟨vacc, hDa4.1, by rw [← r4.length]; exact hsz, hlt, C4, acc ++ [y], vacc ++ [v], ?_⟩
        have kU : Keep H4 C4 (upd H4 Da (.lst (vacc ++ [v]))) C4 → True := fun _ => trivial
        -- the list is written at Da: nothing that the clean heap or the data lean on
        have nt : ∀ (b : Addr) (xs : List V), Rd H4 b (.tup xs) → b ≠ Da := fun b xs h z => by
          subst z
          rcases h with h | ⟨u, h⟩ <;> (rw [hDa4.1] at h; cases h)
        have sqU : ∀ {b : Addr} {xs : List V}, SqT X.K H4 b xs → SqT X.K (upd H4 Da (.lst (vacc ++ [v]))) b xs := fun {b xs} h => by
          rcases h with h | h
          · have n := nt b xs h
            rcases h with h | ⟨u, h⟩
            · exact .inl (.inl (by rw [upd_ne n]; exact h))
            · exact .inl (.inr ⟨u, by rw [upd_ne n]; exact h⟩)
          · exact .inr h
        have rlU : ∀ {b : Addr} {xs : List V}, RlS X.K H4 b xs → RlS X.K (upd H4 Da (.lst (vacc ++ [v]))) b xs := fun {b xs} h => by
          rcases h with ⟨o, h⟩ | h
          · have n : b ≠ Da := fun z => by rw [z, hDa4.1] at h; cases h
            exact .inl ⟨o, by rw [upd_ne n]; exact h⟩
          · exact .inr h
        have repU : ∀ (d : D) (w : V), Rep X.K H4 d w → Rep X.K (upd H4 Da (.lst (vacc ++ [v]))) d w := fun d w h => by
          refine Rep.rec (motive_1 := fun d w _ => Rep X.K (upd H4 Da (.lst (vacc ++ [v]))) d w) (motive_2 := fun ds ws _ => RepL X.K (upd H4 Da (.lst (vacc ++ [v]))) ds ws) .non (fun b => .bl b) (fun b => .int b) (fun b => .str b) (fun b => .ty b) (fun b => .ref b) (fun h _ ih => .tup (sqU h) ih) (fun h _ ih => .rls (rlU h) ih) .nil (fun _ _ ih1 ih2 => .cons ih1 ih2) h
        have repLU : ∀ (d : List D) (w : List V), RepL X.K H4 d w → RepL X.K (upd H4 Da (.lst (vacc ++ [v]))) d w := fun d w h => by
          induction h using RepL.rec (motive_1 := fun _ _ _ => True) with
          | non => trivial
          | bl => trivial
          | int => trivial
          | str => trivial
          | ty => trivial
          | ref => trivial
          | tup => trivial
          | rls => trivial
          | nil => exact .nil
          | cons h1 _ _ ih => exact .cons (repU _ _ h1) ih
        have s4 := (((s2.keep R2 k3)).keep R3 k4)
        have repSU : ∀ (d : Env3) (w : St), RepS X.K H4 d w → RepS X.K (upd H4 Da (.lst (vacc ++ [v]))) d w := fun d w h => by
          induction h with
          | nil => exact .nil
          | no _ ih => exact .no ih
          | so h1 _ ih => exact .so (repU _ _ h1) ih
        have repFU : ∀ {κ : Type} (d : List (κ × D)) (w : List (κ × V)), RepF X.K H4 d w → RepF X.K (upd H4 Da (.lst (vacc ++ [v]))) d w := fun d w h => by
          induction h with
          | nil => exact .nil
          | cons h1 _ ih => exact .cons (repU _ _ h1) ih
        have repKU : ∀ (d : List (NestedKey × D)) (w : List (NestedKey × Addr × Value)), RepK X.K H4 d w → RepK X.K (upd H4 Da (.lst (vacc ++ [v]))) d w := fun d w h => by
          induction h with
          | nil => exact .nil
          | cons e z h1 h2 q _ ih => exact .cons e z (repU _ _ h1) (repU _ _ h2) q ih
        refine ⟨repSU _ _ s4, ⟨fun a o ho => ?_, R4.tab.write hDa4.1 .lst (fun q z => by cases z)⟩, fun b o hb hn ht => ?_, upd_same, hDa4.2, repLU _ _ (r4.append (.cons rv .nil)), h4⟩
        · have na : a ≠ Da := fun z => by rw [z, hDa4.2] at ho; cases ho
          have q := R4 a o ho
          cases o with
          | lst ds => obtain ⟨ws, h1, h2⟩ := q; exact ⟨ws, by rw [upd_ne na]; exact h1, repLU _ _ h2⟩
          | dic ds => obtain ⟨ws, h1, h2⟩ := q; exact ⟨ws, by rw [upd_ne na]; exact h1, repFU _ _ h2⟩
          | dtk ds => obtain ⟨ws, h1, h2⟩ := q; exact ⟨ws, by rw [upd_ne na]; exact h1, repKU _ _ h2⟩
          | ins c ds => obtain ⟨Ca, dx, ws, h0, h1, h2⟩ := q; exact ⟨Ca, dx, ws, h0, by rw [upd_ne na]; exact h1, repFU _ _ h2⟩
        · have q := ((kA.trans k3).trans k4) b o hb hn ht
          exact ⟨by rw [upd_ne (ne_of_none hb hD)]; exact q.1, q.2⟩
      | false =>
        exact iteF ⟨hlt, C3, acc, vacc, (s2.keep R2 k3), R3, kA.trans k3, hDa3.1, hDa3.2, (ra.keep R' k2).keep R2 k3, h3⟩
  · have e0 : ds.drop i = [] := List.drop_eq_nil_of_le (by omega)
    rw [e0] at hl
    refine .inl ⟨ok.stop i H' C' k' R' hl.1 (by omega), ?_⟩
    have R2 : Rel X.K cl H' (cup C' Da (.lst acc)) := ⟨fun a o ho => by
      by_cases ha : a = Da
      · subst ha; rw [cup_same] at ho; cases ho; exact ⟨vacc, hDa, ra⟩
      · rw [cup_ne ha] at ho; exact R' a o ho, R'.tab⟩
    refine hq _ _ _ _ (hl.2 Da hCa) (.ref Da) R2 fun b o hb hn ht => ?_
    obtain ⟨z1, z2⟩ := (k1.trans k') b o hb hn ht
    obtain ⟨z3, _⟩ := k1 b o hb hn ht
    exact ⟨z1, by rw [cup_ne (ne_of_none z3 hD)]; exact z2⟩⟩
theorem cpe_lc {elt tg iter : Expr} {ifs : List Expr} {scope : Scope} {own : List (Str × Nat)} {pos : Pos} {it : CTI} {T : CT} {t : CTT} {e : CTE} (hc : X.calm = true) (hN : X.N.Nodup) (hi : CPI X cl H0 C0 tg iter it) (ok : BlkOk X.N X.env.scope scope own) (hv : ∀ i ∈ T.slots, i ∈ own.map (·.2))
    (hg : ∀ (s : Shared) (H : Hp) (C : Addr) (cs : List (Str × Addr)) (fp : List Addr), PG (X.blk s H scope (compEnvC scope cs C X.env) fp) tg (tgV X.K T)) (ht : ∀ (s : Shared) (H : Hp) (C : Addr) (cs : List (Str × Addr)) (fp : List Addr), CPTs (X.blk s H scope (compEnvC scope cs C X.env) fp) cl H0 C0 ifs t)
    (he : ∀ (s : Shared) (H : Hp) (C : Addr) (cs : List (Str × Addr)) (fp : List Addr), CPE (X.blk s H scope (compEnvC scope cs C X.env) fp) cl H0 C0 elt e) (hs : ∀ x, foldedSetIterable iter X.env x = pure x) :
    CPE X cl H0 C0 (.ListComp elt [⟨tg, iter, ifs, 0⟩] scope pos) (cLc it T (own.map (·.2)) t e) := (pe_lc (tt := tT X.K cl H0 C0 t) (te := tE X.K cl H0 C0 e) hc hN hi ok hg ht he hs).imp (tLc_of hv)
/-- name = [..] on one line -/
theorem cps_setLc {i : Nat} {y : Str} {py : Pos} {elt tg iter : Expr} {ifs : List Expr} {scope : Scope} {own : List (Str × Nat)} {pos spos : Pos} {it : CTI} {T : CT} {t : CTT} {e : CTE} (hc : X.calm = true) (hN : X.N.Nodup) (hy : X.N[i]? = some y) (hyl : X.env.scope.names.lookup y = some .local)
    (hsw : swapsWith (.ListComp elt [⟨tg, iter, ifs, 0⟩] scope pos) (some (.Name y py)) spos.line X.env = pure true) (hi : CPI X cl H0 C0 tg iter it) (ok : BlkOk X.N X.env.scope scope own) (hv : ∀ i ∈ T.slots, i ∈ own.map (·.2))
    (hg : ∀ (s : Shared) (H : Hp) (C : Addr) (cs : List (Str × Addr)) (fp : List Addr), PG (X.blk s H scope (compEnvC scope cs C X.env) fp) tg (tgV X.K T)) (ht : ∀ (s : Shared) (H : Hp) (C : Addr) (cs : List (Str × Addr)) (fp : List Addr), CPTs (X.blk s H scope (compEnvC scope cs C X.env) fp) cl H0 C0 ifs t)
    (he : ∀ (s : Shared) (H : Hp) (C : Addr) (cs : List (Str × Addr)) (fp : List Addr), CPE (X.blk s H scope (compEnvC scope cs C X.env) fp) cl H0 C0 elt e) (hs : ∀ x, foldedSetIterable iter X.env x = pure x) :
    CPS X cl H0 C0 (.Assign [.Name y py] (.ListComp elt [⟨tg, iter, ifs, 0⟩] scope pos) spos) (sAsg (cLc it T (own.map (·.2)) t e) (hT (.nm i))) :=
  (ps_setLc (tt := tT X.K cl H0 C0 t) (te := tE X.K cl H0 C0 e) hc hN hy hyl hsw hi ok hg ht he hs).imp fun D σ H ⟨σc, C, Dc, S, h, hq⟩ => tLc_of (X := X) hv σ H (fun v H1 => gName i v σ H1 D.nx) ⟨σc, C, _, S, h, fun d C1 v H1 ⟨σ', h1, h2⟩ rv R1 k1 => by
    cases h1
    exact hq.nx _ _ _ _ h2 ((S.s.keep S.r k1).set rv i) R1 k1⟩
end
end L3
namespace L3
open PySem L2
noncomputable def noSuper : Expr → Bool
  | .Call (.Name id _) [] [] _ => id != ("super" : Str)
  | _ => true
theorem base_of {o : Expr} {m : Str} {env : Env} {w : Sem Value} (h : noSuper o = true) : attributeBase o m env w = w := by
  cases o with
  | Call f a k p =>
    cases f with
    | Name id q =>
      cases a with
      | nil =>
        cases k with
        | nil => exact abase_call h
        | cons _ _ => rfl
      | cons _ _ => rfl
    | _ => rfl
  | _ => rfl
noncomputable def notSlice : Expr → Bool
  | .Slice .. => false
  | _ => true
theorem plainIx_of {b : Expr} (h : notSlice b = true) : PlainIx b := fun o i => by
  cases b <;> first | rfl | cases h
noncomputable def plainTest : Expr → Bool
  | .BoolOp .. => false
  | .UnaryOp .Not _ _ => false
  | .Compare .. => false
  | .NamedExpr .. => false
  | .IfExp .. => false
  | _ => true
noncomputable def oIxA : O2 := fun x y C Q => match x with
  | .tup ds => ∃ i d, y = .int i ∧ atI ds i = some d ∧ Q d C
  | .rls ds => ∃ i d, y = .int i ∧ atI ds i = some d ∧ Q d C
  | .str z => ∃ i c, y = .int i ∧ z.length ≤ sizeLine ∧ atI z.cps.toList i = some c ∧ Q (.str ⟨#[c]⟩) C
  | .ref p => match C p with
    | some (.lst ds) => ∃ i d, y = .int i ∧ atI ds i = some d ∧ Q d C
    | some (.dic kvs) => ∃ k d, keyD y = some k ∧ valC kvs k = some d ∧ Q d C
    | _ => False
  | _ => False
theorem oIxA_cases {x y : D} {C : CH} {Q : Kv} (h : oIxA x y C Q) : oIx x y C Q ∨ (oIxS x y C Q ∨ oGet x y C Q) := by
  unfold oIxA at h
  cases x with
  | tup ds => obtain ⟨i, d, h1, h2, h3⟩ := h; exact .inl ⟨ds, i, d, .inl rfl, h1, h2, h3⟩
  | rls ds => obtain ⟨i, d, h1, h2, h3⟩ := h; exact .inl ⟨ds, i, d, .inr (.inl rfl), h1, h2, h3⟩
  | str z => obtain ⟨i, c, h1, h2, h3, h4⟩ := h; exact .inr (.inl ⟨z, i, c, rfl, h1, h2, h3, h4⟩)
  | ref p =>
    simp only at h
    cases e : C p with
    | none => rw [e] at h; exact h.elim
    | some o =>
      rw [e] at h
      cases o with
      | lst ds => obtain ⟨i, d, h1, h2, h3⟩ := h; exact .inl ⟨ds, i, d, .inr (.inr ⟨p, rfl, e⟩), h1, h2, h3⟩
      | dic kvs => obtain ⟨k, d, h1, h2, h3⟩ := h; exact .inr (.inr ⟨p, kvs, k, d, rfl, e, h1, h2, h3⟩)
      | dtk kvs => exact h.elim
      | ins c fs => exact h.elim
  | _ => exact h.elim
section
variable {X : Cx} {cl : ClsT} {H0 : Hp} {C0 : CH} {a b e o : Expr} {es : List Expr} {ca cb co : CTE} {cs : CTA} {pos : Pos}
noncomputable def rIxA (K : PySem.W.Frag) : R2 := fun x y H Q => (rIxL K x y H Q ∨ rIxT K x y H Q) ∨ (rIxS x y H Q ∨ rGetV x y H Q)
theorem ixR_A (hu : X.A.units + 1 < cLine) : IxR X (rIxA X.K) := (ix_list.or ix_tup).or (ix_str.or (ix_dict hu))
theorem lk_ixA {K : PySem.W.Frag} : Lk2 K cl (rIxA K) oIxA := fun H C d e v u Q Qc rd re R h hq => by
  rcases oIxA_cases h with h | h | h
  · exact .inl (lk_ix H C d e v u Q Qc rd re R h hq)
  · exact .inr (.inl (lk_ixS H C d e v u Q Qc rd re R h hq))
  · exact .inr (.inr (lk_get H C d e v u Q Qc rd re R h hq))
theorem cpe_ix (hu : X.A.units + 1 < cLine) (ha : CPE X cl H0 C0 a ca) (hb : CPE X cl H0 C0 b cb) (hs : notSlice b = true) : CPE X cl H0 C0 (.Subscript a b pos) (cBin oIxA ca cb) :=
  (pe_ix (ixR_A hu) ha hb (plainIx_of hs)).imp (tOp_of (ta := tE X.K cl H0 C0 ca) (tb := tE X.K cl H0 C0 cb) lk_ixA)
noncomputable abbrev CTO := Env3 → CH → (Option Int → CH → Prop) → Prop
noncomputable def tO (K : PySem.W.Frag) (cl : ClsT) (H0 : Hp) (C0 : CH) (c : CTO) : TO := fun σ H Q => ∃ σc C Qc, S3 K cl H0 C0 σ H σc C ∧ c σc C Qc ∧ ∀ i C' H', Qc i C' → Rel K cl H' C' → Keep H C H' C' → Q i H'
noncomputable def CPO (X : Cx) (cl : ClsT) (H0 : Hp) (C0 : CH) (e : Option Expr) (c : CTO) : Prop := PO X e (tO X.K cl H0 C0 c)
noncomputable def cNoPart : CTO := fun _ C Q => Q none C
noncomputable def cPart (a : CTE) : CTO := fun σ C Q => a σ C fun d C1 => ∃ i, d = .int i ∧ Q (some i) C1
theorem cpo_none : CPO X cl H0 C0 none cNoPart := ⟨fun pins s σ H Q I ⟨σc, C, Qc, S, h, hq⟩ => po_none.run pins s σ H Q I (hq _ _ _ h S.r Keep.refl)⟩
theorem cpo_some (he : CPE X cl H0 C0 e ca) : CPO X cl H0 C0 (some e) (cPart ca) := ⟨fun pins s σ H Q I ⟨σc, C, Qc, S, h, hq⟩ => (po_some he).run pins s σ H Q I ⟨σc, C, _, S, h, fun d C1 v H1 ⟨i, h1, h2⟩ rv R1 k1 => by
  subst h1; cases rv
  exact ⟨i, rfl, hq _ _ _ h2 R1 k1⟩⟩⟩
noncomputable def cutD (ds : List D) (lo hi : Option Int) : List D := (ds.drop (HT.sIx ds.length 0 lo)).take (HT.sIx ds.length ds.length hi - HT.sIx ds.length 0 lo)
noncomputable def oSl (x : D) (lo hi : Option Int) : CH → Kv → Prop := fun C Q => match x with
  | .tup ds => Q (.tup (cutD ds lo hi)) C
  | .str z => z.length ≤ sizeLine ∧ Q (.str (cutS z lo hi)) C
  | .ref p => (∃ ds, LsC C p ds ∧ ∀ l, C l = none → Q (.ref l) (cup C l (.lst (cutD ds lo hi))))
  | _ => False
noncomputable def cSl (a : CTE) (l h : CTO) : CTE := fun σ C Q => a σ C fun d C1 => l σ C1 fun lo C2 => h σ C2 fun hi C3 => oSl d lo hi C3 Q
theorem RepL.cut {K : PySem.W.Frag} {H : Hp} {ds : List D} {vs : List V} (h : RepL K H ds vs) (lo hi : Option Int) : RepL K H (cutD ds lo hi) (cutV vs lo hi) := by
  unfold cutD cutV
  rw [← h.length]
  exact (h.drop _).take _
theorem sIx_whole {n : Nat} {lo hi : Option Int} (h : HT.sIx n 0 lo = 0 ∧ HT.sIx n n hi = n) (ds : List D) (e : ds.length = n) : cutD ds lo hi = ds := by
  unfold cutD
  rw [e, h.1, h.2, List.drop_zero, Nat.sub_zero, ← e, List.take_length]
theorem cpe_slice {lo hi : Option Expr} {cl' ch : CTO} {p2 : Pos} (ha : CPE X cl H0 C0 a ca) (hl : CPO X cl H0 C0 lo cl') (hh : CPO X cl H0 C0 hi ch) : CPE X cl H0 C0 (.Subscript a (.Slice lo hi none p2) pos) (cSl ca cl' ch) :=
  (pe_slice (sl_tupA.or (sl_list.or sl_str)) ha hl hh).imp fun σ H Q ⟨σc, C, Qc, S, h, hq⟩ => ⟨σc, C, _, S, h, fun d C1 v H1 h1 rv R1 k1 => ⟨σc, C1, _, S.step k1 R1, h1, fun l C2 H2 h2 R2 k2 => ⟨σc, C2, _, (S.step k1 R1).step k2 R2, h2, fun u C3 H3 h3 R3 k3 => by
    have rv3 := (rv.keep R1 k2).keep R2 k3
    have hq3 := hq.from_ ((k1.trans k2).trans k3)
    cases d with
    | tup ds =>
      cases rv3 with
      | tup sq rr =>
        refine .inl ⟨_, _, rfl, sq, fun hw => ?_, fun hw p hp => hq3.tup h3 (rr.cut l u) R3 hp⟩
        have h3' : Qc (.tup (cutD ds l u)) C3 := h3
        rw [sIx_whole hw ds rr.length] at h3'
        exact hq3.now h3' (.tup sq rr) R3
    | str z =>
      cases rv3
      exact .inr (.inr ⟨z, rfl, h3.1, hq3.now h3.2 (.str _) R3⟩)
    | ref p =>
      cases rv3
      obtain ⟨ds, hl, q⟩ := h3
      obtain ⟨vs, sq, rr⟩ := R3.ls hl
      exact .inr (.inl ⟨p, vs, rfl, sq, fun p' hp => hq3.lst (rr.cut l u) R3 hp (q p' (free_of R3 hp))⟩)
    | _ => exact h3.elim⟩⟩⟩
noncomputable abbrev OM := D → List D → CH → Kv → Prop
noncomputable def LkM (K : PySem.W.Frag) (cl : ClsT) (r : V → List V → Hp → VK → Prop) (o : OM) : Prop := ∀ H C d v ds vs Q Qc, Rep K H d v → RepL K H ds vs → Rel K cl H C → o d ds C Qc → EndE K cl H C Qc Q → r v vs H Q
noncomputable def LkTy (K : PySem.W.Frag) (cl : ClsT) (T : String) (ty : D → CH → Prop) : Prop := ∀ H C d v, Rep K H d v → Rel K cl H C → ty d C → tyV K T v H
noncomputable def cMt (ty : D → CH → Prop) (o : OM) (co : CTE) (ca : CTA) : CTE := fun σ C Q => co σ C fun d C1 => ty d C1 ∧ ca σ C1 fun ds C2 => o d ds C2 Q
noncomputable def isLst (d : D) (C : CH) : Prop := ∃ p xs, d = .ref p ∧ LsC C p xs
noncomputable def isStr (d : D) (_ : CH) : Prop := ∃ z, d = .str z
theorem lkTy_lst {K : PySem.W.Frag} : LkTy K cl "list" isLst := fun H C d v r R ⟨p, xs, e, h⟩ => by
  subst e; cases r
  obtain ⟨vs, h1, _⟩ := R.ls h
  exact .inl ⟨rfl, vs, h1⟩
theorem lkTy_str {K : PySem.W.Frag} : LkTy K cl "str" isStr := fun H C d v r R ⟨z, e⟩ => by subst e; cases r; exact rfl
theorem few_of {env : Env} {pos : Pos} (h : es.all notStar = true) (hl : es.length < 30) : ((backTo pos (starEach es env)).all (fun x => !x.1) && (backToKw pos (keywordEach [] env)).all (fun x => x.1.isSome)
      && decide (es.length + ([] : List Keyword).length + (if ([] : List Keyword).isEmpty then 0 else 1) < 30)) = true := by
  have e1 : (backTo pos (starEach es env)).all (fun x => !x.1) = true := by
    have := star_any (env := env) (pos := pos) h
    rw [List.all_eq_not_any_not]
    simpa using this
  rw [e1]
  show (true && true && decide (es.length + 0 + 0 < 30)) = true
  rw [decide_eq_true (by omega)]
  rfl
theorem cpe_mt {T id : String} {name : Str} {apos cpos : Pos} {r : V → List V → Hp → VK → Prop} {ty : D → CH → Prop} {om : OM} (pa : PlainAttrs T) (slot : Slot T name id) (hty : typeOf (.builtin id) = pure (.type "method_descriptor")) (hm : MtR X id r)
    (l : LkM X.K cl r om) (lt : LkTy X.K cl T ty) (ho : CPE X cl H0 C0 o co) (ha : CPA X cl H0 C0 es cs) (h0 : es = [] → cs = cNil) (hes : es.all notStar = true) (hl : es.length < 30) (hb : noSuper o = true) (hline : (apos.endLine == cpos.line) = true) :
    CPE X cl H0 C0 (.Call (.Attribute o name apos) es [] cpos) (cMt ty om co cs) := by
  cases es with
  | nil =>
    rw [h0 rfl]
    exact (pe_bm0 pa slot hty hm ho (base_of hb) hline).imp fun σ H Q ⟨σc, C, Qc, S, h, hq⟩ => ⟨σc, C, _, S, h, fun d C1 v H1 ⟨h1, h2⟩ rv R1 k1 => ⟨lt H1 C1 d v rv R1 h1, l H1 C1 d v [] [] Q Qc rv .nil R1 h2 (hq.from_ k1)⟩⟩
  | cons e es =>
    have hes' := hes
    rw [List.all_cons, Bool.and_eq_true] at hes'
    exact (pe_bm pa slot hty hm ho ha (base_of hb) (few_of hes hl) hline (star_of hes'.1) (star_any hes'.2)).imp fun σ H Q ⟨σc, C, Qc, S, h, hq⟩ => ⟨σc, C, _, S, h, fun d C1 v H1 ⟨h1, h2⟩ rv R1 k1 => ⟨lt H1 C1 d v rv R1 h1, σc, C1, _, S.step k1 R1, h2, fun ds C2 vs H2 h3 rs R2 k2 =>
      l H2 C2 d v ds vs Q Qc (rv.keep R1 k2) rs R2 h3 (hq.from_ (k1.trans k2))⟩⟩
noncomputable def oAppend : OM := fun d ds C Q => ∃ p xs y, d = .ref p ∧ ds = [y] ∧ C p = some (.lst xs) ∧ xs.length < sizeLine ∧ Q .non (cup C p (.lst (xs ++ [y])))
theorem lk_append {K : PySem.W.Frag} : LkM K cl rAppend oAppend := fun H C d v ds vs Q Qc r rs R ⟨p, xs, y, h1, h2, h3, h4, q⟩ hq => by
  subst h1; subst h2; cases r
  obtain ⟨u, rfl, ru⟩ := rs.one
  obtain ⟨ws, e1, r1⟩ := R p _ h3
  exact ⟨p, ws, u, rfl, rfl, e1, by rw [← r1.length]; exact h4, hq _ _ _ _ q .non (R.wlst h3 e1 (r1.append (.cons ru .nil))) (Keep.write h3 _ _)⟩
noncomputable def oExtend : OM := fun d ds C Q => ∃ p b xs ys, d = .ref p ∧ ds = [.ref b] ∧ C p = some (.lst xs) ∧ C b = some (.lst ys) ∧ xs.length + ys.length ≤ sizeLine ∧ Q .non (cup C p (.lst (xs ++ ys)))
theorem lk_extend {K : PySem.W.Frag} : LkM K cl rExtend oExtend := fun H C d v ds vs Q Qc r rs R ⟨p, b, xs, ys, h1, h2, h3, h4, h5, q⟩ hq => by
  subst h1; subst h2; cases r
  obtain ⟨u, rfl, ru⟩ := rs.one
  cases ru
  obtain ⟨ws, e1, r1⟩ := R p _ h3
  obtain ⟨us, e2, r2⟩ := R b _ h4
  exact ⟨p, b, ws, us, rfl, rfl, e1, e2, by rw [← r1.length, ← r2.length]; exact h5, hq _ _ _ _ q .non (R.wlst h3 e1 (r1.append r2)) (Keep.write h3 _ _)⟩
noncomputable def oPop : OM := fun d ds C Q => ∃ p xs y, d = .ref p ∧ ds = [] ∧ C p = some (.lst xs) ∧ xs[xs.length - 1]? = some y ∧ Q y (cup C p (.lst xs.dropLast))
theorem lk_pop {K : PySem.W.Frag} : LkM K cl rPop oPop := fun H C d v ds vs Q Qc r rs R ⟨p, xs, y, h1, h2, h3, h4, q⟩ hq => by
  subst h1; subst h2; cases r; cases rs
  obtain ⟨ws, e1, r1⟩ := R p _ h3
  obtain ⟨u, e2, r2⟩ := r1.get h4
  exact ⟨p, ws, u, rfl, rfl, e1, by rw [← r1.length]; exact e2, hq _ _ _ _ q (r2.keep R (Keep.write h3 _ (.lst xs.dropLast))) (R.wlst h3 e1 r1.dropLast) (Keep.write h3 _ _)⟩
noncomputable def oPopAt : OM := fun d ds C Q => ∃ p xs i k y, d = .ref p ∧ ds = [.int i] ∧ C p = some (.lst xs) ∧ -(2 ^ 63) ≤ i ∧ i < 2 ^ 63 ∧ seqIndex? i xs.length = some k ∧ xs[k]? = some y ∧ Q y (cup C p (.lst (xs.eraseIdx k)))
theorem lk_popAt {K : PySem.W.Frag} : LkM K cl rPopAt oPopAt := fun H C d v ds vs Q Qc r rs R ⟨p, xs, i, k, y, h1, h2, h3, h4, h5, h6, h7, q⟩ hq => by
  subst h1; subst h2; cases r
  obtain ⟨w, rfl, rw'⟩ := rs.one
  cases rw'
  obtain ⟨ws, e1, r1⟩ := R p _ h3
  obtain ⟨u, e2, r2⟩ := r1.get h7
  exact ⟨p, ws, i, k, u, rfl, rfl, e1, h4, h5, by rw [← r1.length]; exact h6, e2, hq _ _ _ _ q (r2.keep R (Keep.write h3 _ (.lst (xs.eraseIdx k)))) (R.wlst h3 e1 (r1.eraseIdx k)) (Keep.write h3 _ _)⟩
noncomputable def oJoin : OM := fun d ds C Q => ∃ a x ys, d = .str a ∧ ds = [x] ∧ SqC C x (ys.map D.str) ∧ (ys.map (·.length)).sum + ys.length * a.length ≤ 16777216 ∧ Q (.str (Txt.join a ys)) C
noncomputable def rJoin (K : PySem.W.Frag) : V → List V → Hp → VK → Prop := fun x xs H Q => ∃ a p, ∃ ys : List Str, x = .str a ∧ xs = [.ref p] ∧ (SqL K H p (ys.map V.str) ∨ SqT K H p (ys.map V.str)) ∧
    (ys.map (·.length)).sum + ys.length * a.length ≤ 16777216 ∧ Q (.str (Txt.join a ys)) H
theorem lk_join {K : PySem.W.Frag} : LkM K cl (rJoin K) oJoin := fun H C d v ds vs Q Qc r rs R ⟨a, x, ys, h1, h2, h3, h4, q⟩ hq => by
  subst h1; subst h2; cases r
  obtain ⟨w, rfl, rw'⟩ := rs.one
  obtain ⟨p, us, rfl, h, rr⟩ := R.sq h3 rw'
  have e := rr.strs
  subst e
  exact ⟨a, p, ys, rfl, rfl, h, h4, hq.now q (.str _) R⟩
theorem lk_allB {K : PySem.W.Frag} : LkL K cl (rAll K) (oAll fun bs => .bl (bs.all id)) := fun H C ds vs Q Qc rs R ⟨p, bs, h1, h2, q⟩ hq => by
  subst h1
  obtain ⟨v, rfl, r⟩ := rs.one
  cases r
  obtain ⟨us, e1, r1⟩ := R.ls h2
  have e2 := r1.bls
  subst e2
  exact ⟨p, bs, rfl, e1, hq.now q (.bl _) R⟩
theorem lk_anyB {K : PySem.W.Frag} : LkL K cl (rAny K) (oAll fun bs => .bl (bs.any id)) := fun H C ds vs Q Qc rs R ⟨p, bs, h1, h2, q⟩ hq => by
  subst h1
  obtain ⟨v, rfl, r⟩ := rs.one
  cases r
  obtain ⟨us, e1, r1⟩ := R.ls h2
  have e2 := r1.bls
  subst e2
  exact ⟨p, bs, rfl, e1, hq.now q (.bl _) R⟩
structure ClsOk (K : PySem.W.Frag) (Ca : Addr) : Prop where
  cls : Cls K Ca
  ha : PySem.W.findIn K (.ref Ca) "__class__" = some (some (.builtin "object.__class__"))
  hn : PySem.W.specialIn K (.builtin "object.__class__") "__get__" = some (some (.builtin "getset_descriptor.__get__"))
  htk : PySem.W.takesIn K (.builtin "object.__class__") = some true
  hm : PySem.W.mroIn K Ca (.type "object") = some true
end
end L3
namespace L3
open PySem L2
section
variable {X : Cx} {cl : ClsT} {H0 : Hp} {C0 : CH} {pos : Pos} {ex : Kxs}
/-- a value's type: a built-in one by name, an own class by number -/
noncomputable def tyC (C : CH) : D → Option (String ⊕ Nat)
  | .non => some (.inl "NoneType")
  | .bl _ => some (.inl "bool")
  | .int _ => some (.inl "int")
  | .str _ => some (.inl "str")
  | .tup _ => some (.inl "tuple")
  | .rls _ => some (.inl "list")
  | .ty _ => none
  | .ref a => match C a with
    | some (.lst _) => some (.inl "list")
    | some (.dic _) => some (.inl "dict")
    | some (.dtk _) => none
    | some (.ins c _) => some (.inr c)
    | none => none
noncomputable def tyVal (cl : ClsT) : String ⊕ Nat → Option Value
  | .inl n => some (.type n)
  | .inr c => (cl c).map .ref
theorem tyC_ok {K : PySem.W.Frag} {H : Hp} {C : CH} {d : D} {v : V} {t : String ⊕ Nat} (hc : ∀ c Ca, t = .inr c → cl c = some Ca → ClsOk K Ca) (r : Rep K H d v) (R : Rel K cl H C) (e : tyC C d = some t) : ∃ u, tyVal cl t = some u ∧ TyX K H v u := by
  cases r with
  | non => cases e; exact ⟨_, rfl, .base .non⟩
  | bl b => cases e; exact ⟨_, rfl, .base (.bl b)⟩
  | int b => cases e; exact ⟨_, rfl, .base (.int b)⟩
  | str b => cases e; exact ⟨_, rfl, .base (.str b)⟩
  | ty n => cases e
  | tup s _ =>
    cases e
    refine ⟨_, rfl, ?_⟩
    rcases s with (s | ⟨o, s⟩) | ⟨o, _, _, h1, h2, _⟩
    · exact .base (.tup s)
    · exact .fTuple s
    · exact .kTuple h1 h2
  | rls s _ =>
    cases e
    refine ⟨_, rfl, ?_⟩
    rcases s with ⟨o, s⟩ | ⟨o, _, _, h1, h2, _⟩
    · exact .base (.frz s)
    · exact .kList h1 h2
  | ref a =>
    unfold tyC at e
    simp only at e
    cases q : C a with
    | none => rw [q] at e; cases e
    | some o =>
      rw [q] at e
      have ok := R a o q
      cases o with
      | lst ds => cases e; obtain ⟨vs, h, _⟩ := ok; exact ⟨_, rfl, .base (.lst h)⟩
      | dic ds => cases e; obtain ⟨vs, h, _⟩ := ok; exact ⟨_, rfl, .base (.dK h)⟩
      | dtk ds => cases e
      | ins c ds =>
        cases e
        obtain ⟨Ca, dx, vs, h0, h, _⟩ := ok
        have k := hc c Ca rfl h0
        exact ⟨.ref Ca, by show (cl c).map Value.ref = _; rw [h0]; rfl, .base (.ins h k.cls k.ha k.hn k.htk k.hm)⟩
/-- isinstance(e, T): kit tells what is of what -/
noncomputable def oIsi (kit : String ⊕ Nat → String ⊕ Nat → Option Bool) (u : String ⊕ Nat) : O1 := fun d C Q => ∃ t b, tyC C d = some t ∧ kit t u = some b ∧ Q (.bl b) C
noncomputable def KitOk (K : PySem.W.Frag) (cl : ClsT) (kit : String ⊕ Nat → String ⊕ Nat → Option Bool) : Prop := ∀ t u b vt, kit t u = some b → tyVal cl t = some vt → ∃ vu, tyVal cl u = some vu ∧ PySem.W.kitOne K vt vu = some b
theorem cpe_isi {kit : String ⊕ Nat → String ⊕ Nat → Option Bool} {u : String ⊕ Nat} {e c : Expr} {ca : CTE} {p : Pos} {vc : V} (hkit : KitOk X.K cl kit) (hcl : ∀ c Ca b, kit (.inr c) u = some b → cl c = some Ca → ClsOk X.K Ca) (he : CPE X cl H0 C0 e ca) (hc : PE X c (tC vc)) (hcv : ∀ w, tyVal cl u = some w → ClsV vc w) (hg : Gl X "isinstance") (hm : X.mg "isinstance" = none)
    (h1 : notStar e = true) (h2 : notStar c = true) : CPE X cl H0 C0 (.Call (.Name "isinstance" p) [e, c] [] pos) (cUn (oIsi kit u) ca) :=
  (pe_callB call_isi hg hm (by decide +kernel) (pa_cons he (pa_cons hc pa_nil (star_of h2)) (star_of h1)) (by decide) (by decide) (star_of h1) (star_any (by simp [h2]))).imp fun σ H Q ⟨σc, C, Qc, S, h, hq⟩ => ⟨σc, C, _, S, h, fun d C1 v H1 ⟨t, b, e1, e2, q⟩ rv R1 k1 => by
    obtain ⟨w, e3, ty⟩ := tyC_ok (fun c Ca z hc' => hcl c Ca b (by rw [← z]; exact e2) hc') rv R1 e1
    obtain ⟨wu, e4, e5⟩ := hkit t u b w e2 e3
    exact ⟨v, vc, w, wu, b, rfl, hcv wu e4, ty, e5, (hq.from_ k1).now q (.bl b) R1⟩⟩
/-- raise X("..") of an own class without __init__ -/
noncomputable def sRaise (c : Nat) (ex : Kxs) : CTS := fun _ σ C => ex ⟨c, []⟩ σ C
theorem cps_raise {c : Nat} {Ca : Addr} {bmB : List Value} {B newId initId : String} {x m : Str} {j : Nat} {p p2 pos' : Pos} (hc : cl c = some Ca) (F : ExcBaseFacts B newId initId bmB) (q : PySem.W.excIn X.K Ca bmB newId = true) (gC : X.mg x = some (.ref Ca)) (kC : PySem.W.keepIn X.K (.ref Ca) = true) (r : Raises X (.ref Ca)) (hg : Gl X x)
    (hdb : (x == ("__debug__" : Str)) = false) (hcalm : X.calm = true) (tk : Takes X (WC X.K cl H0 C0 ex)) : CPS X cl H0 C0 (.Raise (some (.Call (.Name x p) [.Constant (.str m) j p2] [] pos')) none pos) (sRaise c ex) :=
  (ps_raise hcalm tk (pmk_own F q gC kC r hg hdb)).imp fun D σ H ⟨σc, C, Dc, S, h, hq⟩ => ⟨_, σc, C, h, ⟨Ca, hc, rfl, .inl ⟨rfl, rfl⟩⟩, S⟩
/-- the suite is one of few forms: nothing is called in it -/
noncomputable def sTry (sub : Nat → Bool) (b : Kxs → CTS) (s : CTS) (ex : Kxs) : CTS := fun D σ C => b (fun x σ1 C1 => if sub x.cls = true then s D σ1 C1 else ex x σ1 C1) D σ C
/-- every class of the program that is raised is told apart by the clause -/
noncomputable def SubOk (K : PySem.W.Frag) (cl : ClsT) (c : Value) (sub : Nat → Bool) : Prop := ∀ i Ca, cl i = some Ca → PySem.W.exmOne K (.ref Ca) c = some (sub i)
theorem cps_try {x : Str} {c : Value} {body suite : List Stmt} {b0 : Stmt} {np pos' : Pos} {sub : Nat → Bool} {b : Kxs → CTS} {s : CTS} (hs : X.stack = X.env :: X.outer) (hf : X.env.frame = some X.env.locals) (hc : Names X x c) (hsub : SubOk X.K cl c sub) (tk : Takes X (WC X.K cl H0 C0 ex))
    (hb : ∀ (pn : List (Addr × Obj)) (xe : Value → Shared → Prop) (ex' : Kxs) (H1 : Hp) (C1 : CH), Takes (X.tr pn xe) (WC X.K cl H1 C1 ex') → PassesOwn (model X.prog X.w) X.A X.env xe → CPSs (X.tr pn xe) cl H1 C1 body (b ex'))
    (hsu : ∀ (a : Addr) (oe : Obj) (pn : List (Addr × Obj)), CPSs (X.suite a ((a, oe) :: pn)) cl H0 C0 (b0 :: suite) s) :
    CPS X cl H0 C0 (.Try body [.ExceptHandler (some (.Name x np)) none (b0 :: suite) pos'] [] [] pos) (sTry sub b s ex) :=
  (ps_try_only (tb := fun W D σ H => ∃ ex' H1 C1, (∀ cls d σ H, WC X.K cl H1 C1 ex' cls d σ H → W cls d σ H) ∧ tS X.K cl H1 C1 (b ex') D σ H) (ts := fun _ _ _ => tS X.K cl H0 C0 s) hs hf hc tk (fun W pn xe tk' po => ⟨fun pins st σ H D I ⟨ex', H1, C1, hw, h⟩ => (hb pn xe ex' H1 C1 (tk'.imp hw) po).run pins st σ H D I h⟩)
    fun a oe cls d pn _ _ => hsu a oe pn).imp fun D σ H ⟨σc, C, Dc, S, h, hq⟩ => by
    refine ⟨_, H, C, fun cls d σ' H' ⟨y, σ1, C1, hy, ⟨Ca, e1, e2, e3⟩, S1⟩ => ?_, σc, C, Dc, ⟨S.s, S.r, Keep.refl⟩, h, hq⟩
    subst e2
    have hy' : if sub y.cls = true then s Dc σ1 C1 else ex y σ1 C1 := hy
    have S2 : S3 X.K cl H0 C0 σ' H' σ1 C1 := ⟨S1.s, S1.r, S.f.trans S1.f⟩
    refine ⟨_, hsub _ _ e1, fun hyes a ha => ?_, fun hno => ?_⟩
    · rw [if_pos hyes] at hy'
      exact ⟨σ1, C1, Dc, S2, hy', hq.from_ S1.f⟩
    · rw [hno] at hy'
      exact ⟨y, σ1, C1, hy', ⟨Ca, e1, rfl, e3⟩, S2⟩
end
noncomputable def start3 (N : List Str) (ds : List D) : Env3 := ds.map some ++ List.replicate (N.length - ds.length) none
theorem start_rep {K : PySem.W.Frag} {H : Hp} {N : List Str} {ds : List D} {vs : List V} (r : RepL K H ds vs) : RepS K H (start3 N ds) (L2.start N vs) := by
  unfold start3 L2.start
  rw [r.length]
  have tail : ∀ n : Nat, RepS K H (List.replicate n none) (List.replicate n none) := by
    intro n
    induction n with
    | zero => exact .nil
    | succ n ih => rw [List.replicate_succ, List.replicate_succ]; exact .no ih
  have go : ∀ {ds : List D} {vs : List V} {n : Nat}, RepL K H ds vs → RepS K H (ds.map some ++ List.replicate n none) (vs.map some ++ List.replicate n none) := by
    intro ds
    induction ds with
    | nil => intro vs n r; cases r; exact tail n
    | cons d ds ih =>
      intro vs n r
      cases r with
      | cons r t => exact .so r (ih t)
  exact go r
/-- what the clean rules ask of a context -/
structure XOk (P : Program) (w : World) (K : PySem.W.Frag) (mg : Str → Option Value) (base : Heap) (tb : List LamR) (n : Nat) (N : List Str) (sc : Scope) (top : Bool) (X : Cx) : Prop where
  P_ : X.prog = P
  w_ : X.w = w
  K_ : X.K = K
  mg_ : X.mg = mg
  base_ : X.base = base
  N_ : X.N = N
  nd : N.Nodup
  sc_ : X.env.scope = sc
  kind : sc.kind = .function
  calm : X.calm = true
  room : Room n X.A
  loc : top = true → ∀ x, Loc sc x → X.fn x = true ∨ sc.names.lookup x = some .local
  po : PassesOwn (model X.prog X.w) X.A X.env X.xe
  gd : X.A.guards = some []
  fr : top = true → X.stack = X.env :: X.outer ∧ X.env.frame = some X.env.locals
  tab : ∀ r ∈ tb, r.names = sc.names → X.env.code = .ref r.c ∧ LamX.TabB X.base X.mg r.c r.P ∧ X.env.qual ++ "<lambda>" = r.q
end L3
namespace L3
open PySem L2 PySem.Spec PyProof.Rows
noncomputable def deepOk (p : PyData) : Bool := p.canLay0 && decide (p.depth ≤ 350)
noncomputable def oEqN (f : Bool → Bool) : O2 := fun x y C Q => ∃ p q, Snap C x p ∧ Snap C y q ∧ deepOk p = true ∧ deepOk q = true ∧ Q (.bl (f (PyData.eqv p q))) C
noncomputable def rEqN (f : Bool → Bool) (K : PySem.W.Frag) : R2 := fun x y H Q => ∃ d e, Dp K H x d ∧ Dp K H y e ∧ deepOk d = true ∧ deepOk e = true ∧ Q (.bl (f (PyData.eqv d e))) H
section
variable {X : Cx} {cl : ClsT} {K : PySem.W.Frag}
theorem op_eqN (hu : X.A.units + 350 < cLine) : OpR X (compareOp .Eq) (rEqN id X.K) := by
  intro pins s σ H x y v u Q I rx ry h
  obtain ⟨d, e, hd, he, sd, se, q⟩ := h
  obtain ⟨as, r1⟩ := Dp.reads I d x v hd rx
  obtain ⟨bs, r2⟩ := Dp.reads I e y u he ry
  unfold deepOk at sd se
  simp only [Bool.and_eq_true, decide_eq_true_eq] at sd se
  have h2 : min d.depth e.depth ≤ d.depth := Nat.min_le_left _ _
  exact SeqAt.compareEq_reads r1 r2 sd.1 se.1 (by omega) ⟨.bl _, H, I, rfl, q⟩
theorem op_neN (hu : X.A.units + 350 < cLine) : OpR X (compareOp .NotEq) (rEqN not X.K) := by
  intro pins s σ H x y v u Q I rx ry h
  obtain ⟨d, e, hd, he, sd, se, q⟩ := h
  obtain ⟨as, r1⟩ := Dp.reads I d x v hd rx
  obtain ⟨bs, r2⟩ := Dp.reads I e y u he ry
  unfold deepOk at sd se
  simp only [Bool.and_eq_true, decide_eq_true_eq] at sd se
  have h2 : min d.depth e.depth ≤ d.depth := Nat.min_le_left _ _
  exact SeqAt.compareNe_reads r1 r2 sd.1 se.1 (by omega) ⟨.bl _, H, I, rfl, q⟩
theorem lk_eqN (f : Bool → Bool) : Lk2 K cl (rEqN f K) (oEqN f) := fun H C d e v u Q Qc rd re R ⟨p, q, h1, h2, h3, h4, h5⟩ hq => ⟨p, q, h1.dp R rd, h2.dp R re, h3, h4, hq.now h5 (.bl _) R⟩
noncomputable def oMulT : O2 := fun x y C Q => ∃ xs k, x = .tup xs ∧ y = .int k ∧ xs ≠ [] ∧ 0 ≤ k ∧ k ≤ 10000 ∧ xs.length ≤ 1000 ∧ Q (.tup (List.replicate k.toNat xs).flatten) C
theorem RepL.rep {H : Hp} {ds : List D} {vs : List V} (r : RepL K H ds vs) : ∀ n : Nat, RepL K H (List.replicate n ds).flatten (List.replicate n vs).flatten
  | 0 => .nil
  | n + 1 => by
    rw [List.replicate_succ, List.replicate_succ, List.flatten_cons, List.flatten_cons]
    exact r.append (RepL.rep r n)
theorem tuple_mul1 (l : Addr) (items : Array Value) (n : Nat) (dd : Option Addr) (sl : Array (Option Value)) (x : Int) (u : Tok) (hx : x = 1) (c0 : (decide (x < -(2 ^ 63)) || decide (x ≥ 2 ^ 63)) = false) (c1 : (items.isEmpty || x == 1) = true) :
    Meets (Builtin.«tuple.__mul__» ⟨[.ref l, .int x u], []⟩) (fun _ R s => s.heap.get? l = some { cls := .type "tuple", dict := dd, data := .seq items n, slots := sl } ∧ R (.ok (.ret (Value.ref l))) s) :=
  .of_wp fun prog w A R s h => by
    obtain ⟨hp, g, d, tk, os⟩ := s
    obtain ⟨hl, h⟩ := h
    have f1 := AutoSeq1.idx_int
    wp_walk using AutoSeq1.wpAny_loadPart' hl
    repeat (first
      | (refine wpAny_ite_false (decide_eq_false (by rw [c0]; exact Bool.false_ne_true)) ?_; wp_walk using AutoSeq1.wpAny_loadPart' hl)
      | (refine wpAny_ite_true (decide_eq_true c1) ?_; wp_walk using AutoSeq1.wpAny_loadPart' hl))
    exact ⟨_, rfl, h⟩
theorem tuple_mul0 (l : Addr) (items : Array Value) (n : Nat) (dd : Option Addr) (sl : Array (Option Value)) (x : Int) (u : Tok) (hx : x = 0) (hi : items.isEmpty = false) :
    Meets (Builtin.«tuple.__mul__» ⟨[.ref l, .int x u], []⟩) (fun _ R s => s.heap.get? l = some { cls := .type "tuple", dict := dd, data := .seq items n, slots := sl } ∧
      R (.ok (.ret (Value.ref s.heap.objs.size))) { s with heap := s.heap.push { cls := Value.type "tuple", data := Data.seq #[] }, toks := s.toks }) :=
  .of_wp fun prog w A R s h => by
    obtain ⟨hp, g, d, tk, os⟩ := s
    obtain ⟨hl, h⟩ := h
    have f1 := AutoSeq1.idx_int
    have c0 : (decide (x < -(2 ^ 63)) || decide (x ≥ 2 ^ 63)) = false := by subst hx; decide
    have c1 : (items.isEmpty || x == 1) = false := by subst hx; rw [hi]; rfl
    have c2 : (decide (x ≤ 0) || items.isEmpty) = true := by subst hx; rfl
    wp_walk using AutoSeq1.wpAny_loadPart' hl
    repeat (first
      | (refine wpAny_ite_false (decide_eq_false (by rw [c0]; exact Bool.false_ne_true)) ?_; wp_walk using AutoSeq1.wpAny_loadPart' hl)
      | (refine wpAny_ite_false (decide_eq_false (by rw [c1]; exact Bool.false_ne_true)) ?_; wp_walk using AutoSeq1.wpAny_loadPart' hl)
      | (refine wpAny_ite_true (decide_eq_true c2) ?_; wp_walk using AutoSeq1.wpAny_loadPart' hl))
    exact ⟨_, rfl, h⟩
noncomputable def rRepU (K : PySem.W.Frag) : R2 := fun x y H Q => ∃ l k xs, x = .ref l ∧ y = .int k ∧ SqT K H l xs ∧ xs ≠ [] ∧ k ≤ 10000 ∧ xs.length ≤ 1000 ∧ ((k = 1 ∧ Q (.ref l) H) ∨ ((2 ≤ k ∧ ∀ p, H p = none → Q (.ref p) (upd H p (.tup (List.replicate k.toNat xs).flatten))) ∨ (k = 0 ∧ ∀ p, H p = none → Q (.ref p) (upd H p (.tup [])))))
theorem op_repU : OpR X (binaryOp .Mult) (rRepU X.K) := by
  intro pins s σ H x y v u Q I rx ry h
  obtain ⟨l, k, xs, ex, ey, hT, hne, h2, hz, ⟨hk, q⟩ | ⟨hk, q⟩ | ⟨hk, q⟩⟩ := h
  · subst ex ey
    cases rx
    obtain ⟨t, rfl⟩ := ry
    obtain ⟨its, r, ⟨⟨cls, dd, data, sl⟩, ho, hc, n, hd⟩, hs⟩ := I.tuple hT
    simp only at hc hd
    subst hc hd
    have c0 : (decide (k < -(2 ^ 63)) || decide (k ≥ 2 ^ 63)) = false := by subst hk; decide
    have c1 : (its.toArray.isEmpty || k == 1) = true := by subst hk; simp
    refine wpAny_binaryOp_repeat_ref (T := "tuple") (U := "int") (by decide) ⟨_, ho, rfl⟩ (fun s' => typeIs_int s' k t) noFill_tuple_mul F.fills_int_mul F.slot_int_rmul repeat_tuple F.slot_int_index.lookup
      (call_meets F.slot_int_rmul (typeIs_int s k t) F.entry_int_rmul (F.args_int_rmul_2 _ _) (int_rmul_tuple k t l its.toArray n dd sl)
        ⟨ho, rfl, ⟨_, ho, rfl⟩, call_meets F.slot_tuple_mul ⟨_, ho, rfl⟩ F.entry_tuple_mul (F.args_tuple_mul_2 _ _) (tuple_mul1 l its.toArray n dd sl k t hk c0 c1) ⟨ho, ?_⟩⟩)
    exact ⟨.ref l, H, I, rfl, q⟩
  · subst ex ey
    cases rx
    obtain ⟨t, rfl⟩ := ry
    obtain ⟨its, r, ⟨⟨cls, dd, data, sl⟩, ho, hc, n, hd⟩, hs⟩ := I.tuple hT
    simp only at hc hd
    subst hc hd
    have lI : its.length = xs.length := r.length.symm
    have l0 : its ≠ [] := fun z => hne (List.eq_nil_of_length_eq_zero (by rw [← lI, z]; rfl))
    have nE : its.toArray.isEmpty = false := by cases its <;> first | exact absurd rfl l0 | rfl
    have sz : its.toArray.size = xs.length := by rw [← lI]; rfl
    have prd : k.toNat * xs.length ≤ 10000 * 1000 := Nat.mul_le_mul (by omega) hz
    have prI : ((its.toArray.size : Nat) : Int) * k ≤ 10000000 := by
      have e : ((its.toArray.size : Nat) : Int) * k = ((k.toNat * xs.length : Nat) : Int) := by
        rw [sz, Int.mul_comm, Int.natCast_mul, Int.toNat_of_nonneg (by omega)]
      omega
    have sl0 : 10000000 ≤ sizeLine := by decide
    have q0 : (decide (k < -(2 ^ 63)) || decide (k ≥ 2 ^ 63)) = false := by simp only [Bool.or_eq_false_iff, decide_eq_false_iff_not]; omega
    have q1 : (its.toArray.isEmpty || k == 1) = false := by rw [nE]; simp; omega
    have q2 : (decide (k ≤ 0) || its.toArray.isEmpty) = false := by rw [nE]; simp; omega
    have q4 : Builtin.Tuple.tupleTooMany (((its.toArray.size : Nat) : Int) * k) = false := by unfold Builtin.Tuple.tupleTooMany; exact decide_eq_false (by omega)
    have fl : (List.replicate k.toNat its).flatten.length ≤ sizeLine := by rw [PyProof.Rows.lm_len_rep_flat, lI]; omega
    refine wpAny_binaryOp_repeat_ref (T := "tuple") (U := "int") (by decide) ⟨_, ho, rfl⟩ (fun s' => typeIs_int s' k t) noFill_tuple_mul F.fills_int_mul F.slot_int_rmul repeat_tuple F.slot_int_index.lookup
      (call_meets F.slot_int_rmul (typeIs_int s k t) F.entry_int_rmul (F.args_int_rmul_2 _ _) (int_rmul_tuple k t l its.toArray n dd sl)
        ⟨ho, rfl, ⟨_, ho, rfl⟩, call_meets F.slot_tuple_mul ⟨_, ho, rfl⟩ F.entry_tuple_mul (F.args_tuple_mul_2 _ _) (tuple_mulW l its.toArray n dd sl k t q0 q1 q2 (by omega) q4 (by rw [size_rep]; exact fl)) ⟨ho, ?_⟩⟩)
    rw [size_rep]
    refine ⟨.ref s.heap.objs.size, _, I.laid (t' := s.toks) (o := .tup (List.replicate k.toNat xs).flatten) (fun b ob q => Heap.get?_push_of_some _ q) (Nat.le_refl _) ?_, rfl, q _ (I.hok.fresh (Nat.le_refl _))⟩
    exact ⟨by rw [PyProof.Rows.lm_len_rep_flat]; omega, _, r.rep k.toNat, IsTup.new _ _⟩
  · subst ex ey
    cases rx
    obtain ⟨t, rfl⟩ := ry
    obtain ⟨its, r, ⟨⟨cls, dd, data, sl⟩, ho, hc, n, hd⟩, hs⟩ := I.tuple hT
    simp only at hc hd
    subst hc hd
    have hle : its.length = xs.length := r.length.symm
    have hi : its.toArray.isEmpty = false := by
      cases its with
      | nil => exact absurd (List.eq_nil_of_length_eq_zero hle.symm) hne
      | cons a b => rfl
    refine wpAny_binaryOp_repeat_ref (T := "tuple") (U := "int") (by decide) ⟨_, ho, rfl⟩ (fun s' => typeIs_int s' k t) noFill_tuple_mul F.fills_int_mul F.slot_int_rmul repeat_tuple F.slot_int_index.lookup
      (call_meets F.slot_int_rmul (typeIs_int s k t) F.entry_int_rmul (F.args_int_rmul_2 _ _) (int_rmul_tuple k t l its.toArray n dd sl)
        ⟨ho, rfl, ⟨_, ho, rfl⟩, call_meets F.slot_tuple_mul ⟨_, ho, rfl⟩ F.entry_tuple_mul (F.args_tuple_mul_2 _ _) (tuple_mul0 l its.toArray n dd sl k t hk hi) ⟨ho, ?_⟩⟩)
    refine ⟨.ref s.heap.objs.size, _, I.laid (t' := s.toks) (o := .tup []) (fun b ob q => Heap.get?_push_of_some _ q) (Nat.le_refl _) ?_, rfl, q _ (I.hok.fresh (Nat.le_refl _))⟩
    exact ⟨Nat.zero_le _, [], .nil, IsTup.new _ _⟩
theorem lk_mulT : Lk2 K cl (rRepU K) oMulT := fun H C d e v u Q Qc rd re R ⟨xs, k, h1, h2, h3, h4, h5, h6, q⟩ hq => by
  subst h1; subst h2
  cases re
  cases rd with
  | tup s r =>
    refine ⟨_, k, _, rfl, rfl, s, fun z => by subst z; cases r; exact h3 rfl, h5, by rw [← r.length]; exact h6, ?_⟩
    by_cases hk : k = 1
    · refine .inl ⟨hk, ?_⟩
      subst hk
      have e : (List.replicate (1 : Int).toNat xs).flatten = xs := by simp
      rw [e] at q
      exact hq.now q (.tup s r) R
    · by_cases h0 : k = 0
      · refine .inr (.inr ⟨h0, fun p hp => ?_⟩)
        subst h0
        exact hq.tup q (.nil) R hp
      · exact .inr (.inl ⟨by omega, fun p hp => hq.tup q (r.rep _) R hp⟩)
/-- int * int, tuple * int -/
noncomputable def repS (z : Str) (n : Nat) : Str := ⟨(List.replicate n z.cps).foldl (· ++ ·) #[]⟩
noncomputable def oMulA : O2 := fun x y C Q => match x, y with
  | .str z, .int k => 0 ≤ k ∧ k ≤ 10000 ∧ z.length ≤ 1000 ∧ Q (.str (repS z k.toNat)) C
  | .int i, .int j => CMul i j ∧ Q (.int (i * j)) C
  | .tup xs, .int k => xs ≠ [] ∧ 0 ≤ k ∧ k ≤ 10000 ∧ xs.length ≤ 1000 ∧ Q (.tup (List.replicate k.toNat xs).flatten) C
  | .ref a, .int k => ∃ xs, C a = some (.lst xs) ∧ -(2 ^ 63) ≤ k ∧ k < 2 ^ 63 ∧ xs.length * k.toNat ≤ sizeLine ∧ ∀ p, C p = none → Q (.ref p) (cup C p (.lst (List.replicate k.toNat xs).flatten))
  | _, _ => False
noncomputable def rExtendT (K : PySem.W.Frag) : V → List V → Hp → VK → Prop := fun x vs H Q => ∃ l b xs zs, x = .ref l ∧ vs = [.ref b] ∧ H l = some (.lst xs) ∧ SqT K H b zs ∧ xs.length + zs.length ≤ sizeLine ∧ Q .non (upd H l (.lst (xs ++ zs)))
theorem ext_tup (l : Addr) (items : Array Value) (n : Nat) (b : Addr) (items2 : Array Value) (n2 : Nat) (dd : Option Addr) (sl : Array (Option Value)) (hs0 : ¬(!items.isEmpty && Builtin.List.listTooLong (items.size + items2.size)) = true) (hs1 : items.size ≤ sizeLine) (hs2 : items.size + items2.size ≤ sizeLine + 1) :
    Meets (Builtin.«list.extend» ⟨[.ref l, .ref b], []⟩) (fun _ R s => s.heap.get? l = some { cls := .type "list", dict := none, data := .seq items n, slots := #[] } ∧ s.heap.get? b = some { cls := .type "tuple", dict := dd, data := .seq items2 n2, slots := sl } ∧ R (.ok (.ret Value.none)) { s with heap := s.heap.update l (Obj.mapSeq fun x => x ++ items2), toks := s.toks }) :=
  .of_wp fun prog w A R s h => by
    obtain ⟨hp, g, d, tk, os⟩ := s; obtain ⟨hl, hb, h⟩ := h; have f1 := AutoSeq1.idx_int; have f2 := AutoSeq1.sub_tuple_tuple; have f3 := AutoSeq1.sub_list_list; have f4 := AutoSeq1.sub_tuple_list; have f5 := AutoSeq1.sub_list_tuple;
    have hz' : (items ++ items2).size ≤ sizeLine + 1 := by rw [Array.size_append]; exact hs2
    wp_walk using (wpAny_updateSeq hl rfl (hz := hs1) (_hz' := hz')), AutoSeq1.wpAny_loadPart' hl, AutoSeq1.wpAny_loadPart' hb; exact ⟨_, rfl, h⟩
theorem mt_extendT : MtM X "list.extend" (rExtendT X.K) := by
  intro pins s σ H x vs v us Q I rx rv h
  obtain ⟨l, b, xs, zs, rfl, rfl, hH, hB, hz, q⟩ := h
  cases rx
  obtain ⟨u, rfl, ru⟩ := rv.one
  cases ru
  obtain ⟨z, its, n, r, hl, e⟩ := I.lstM hH
  obtain ⟨its2, r2, ⟨⟨cls, dd, data, sl⟩, ho, hc, n2, hd⟩, hs2⟩ := I.tuple hB
  simp only at hc hd
  subst hc hd
  have hle : its.length = xs.length := r.length.symm
  have hle2 : its2.length = zs.length := r2.length.symm
  have hsz : its.toArray.size + its2.toArray.size ≤ sizeLine := by rw [List.size_toArray, List.size_toArray]; omega
  have hlong : ¬ (!its.toArray.isEmpty && Builtin.List.listTooLong (its.toArray.size + its2.toArray.size)) = true := by
    rw [notLongL hsz, Bool.and_false]
    exact Bool.false_ne_true
  refine call_meets F.slot_list_extend ⟨_, e, rfl⟩ F.entry_list_extend (F.args_list_extend_2 _ _)
    (ext_tup l its.toArray n b its2.toArray n2 dd sl hlong (by rw [List.size_toArray]; omega) (by omega)) ⟨e, ho, ?_⟩
  refine ⟨.non, _, I.lset (its' := its ++ its2) hH e (by simp) (r.append r2) ?_, rfl, q⟩
  rw [List.length_append]
  omega
noncomputable def oExtendA : OM := fun d ds C Q => ∃ p xs y ys, d = .ref p ∧ ds = [y] ∧ C p = some (.lst xs) ∧ (y = .tup ys ∨ ∃ b, y = .ref b ∧ C b = some (.lst ys)) ∧ xs.length + ys.length ≤ sizeLine ∧ Q .non (cup C p (.lst (xs ++ ys)))
theorem lk_extendA : LkM K cl (fun x vs H Q => rExtend x vs H Q ∨ rExtendT K x vs H Q) oExtendA := fun H C d v ds vs Q Qc r rs R ⟨p, xs, y, ys, h1, h2, h3, h4, h5, q⟩ hq => by
  rcases h4 with h4 | ⟨b, h4, h6⟩
  · right
    subst h1; subst h2; subst h4; cases r
    obtain ⟨u, rfl, ru⟩ := rs.one
    obtain ⟨ws, e1, r1⟩ := R p _ h3
    cases ru with
    | tup s r2 => exact ⟨p, _, ws, _, rfl, rfl, e1, s, by rw [← r1.length, ← r2.length]; exact h5, hq _ _ _ _ q .non (R.wlst h3 e1 (r1.append r2)) (Keep.write h3 _ _)⟩
  · left
    subst h4
    exact lk_extend H C d v ds vs Q Qc r rs R ⟨p, b, xs, ys, h1, h2, h3, h6, h5, q⟩ hq
variable {H0 : Hp} {C0 : CH} {pos : Pos}
noncomputable def sPar3 (i j l : Nat) (a : CTA) : CTS := fun D σ C => a σ C fun ds C1 => ∃ d e f, ds = [d, e, f] ∧ D.nx (((σ.set i (some d)).set j (some e)).set l (some f)) C1
theorem cps_par3 {i j l : Nat} {x y z : Str} {a b c : Expr} {cs : CTA} {px py pz pt : Pos} {kt k2 pt2} (hc : X.calm = true) (hN : X.N.Nodup) (hi : X.N[i]? = some x) (hj : X.N[j]? = some y) (hl : X.N[l]? = some z) (hij : i ≠ j) (hil : i ≠ l) (hjl : j ≠ l)
    (hx : X.env.scope.names.lookup x = some .local) (hy : X.env.scope.names.lookup y = some .local) (hz : X.env.scope.names.lookup z = some .local) (ha : CPA X cl H0 C0 [a, b, c] cs)
    (hw : swappedStores [.Tuple [.Name x px, .Name y py, .Name z pz] kt pt] (.Tuple [a, b, c] k2 pt2) X.env = pure (some [x, y, z]))
    (hs : swapsWithSole [.Tuple [.Name x px, .Name y py, .Name z pz] kt pt] (.Tuple [a, b, c] k2 pt2) pos.line X.env = pure false) :
    CPS X cl H0 C0 (.Assign [.Tuple [.Name x px, .Name y py, .Name z pz] kt pt] (.Tuple [a, b, c] k2 pt2) pos) (sPar3 i j l cs) :=
  (ps_par3 hc hN hi hj hl hij hil hjl hx hy hz ha hw hs).imp fun D σ H ⟨σc, C, Dc, S, h, hq⟩ => ⟨σc, C, _, S, h, fun ds C1 vs H1 ⟨d, e, f, h1, h2⟩ rs R1 k1 => by
    subst h1
    cases rs with
    | cons r1 t =>
      obtain ⟨u, w, rfl, r2, r3⟩ := t.two
      exact ⟨_, u, w, rfl, hq.nx _ _ _ _ h2 ((((S.s.keep S.r k1).set r1 i).set r2 j).set r3 l) R1 k1⟩⟩
end
end L3
namespace L3
open PySem L2 PySem.Spec PyProof.Rows
section
variable {X : Cx} {cl : ClsT} {H0 : Hp} {C0 : CH} {K : PySem.W.Frag} {H : Hp} {C : CH} {pins : List (Addr × Obj)} {σ : L2.St} {s : Shared}
mutual
theorem nested_of (I : Inv X pins σ H s) : ∀ (d : D) (v : V) (u : Value) (k : NestedKey), Rep X.K H d v → RelV v u → keyT d = some k → NestedIs s.heap k u
  | .non, v, u, k, h, r, e => by cases h; cases r; simp only [keyT, Option.some.injEq] at e; subst e; exact .none
  | .bl b, v, u, k, h, r, e => by cases h; cases r; simp only [keyT, Option.some.injEq] at e; subst e; exact .bool rfl
  | .int b, v, u, k, h, r, e => by cases h; obtain ⟨t, rfl⟩ := r; simp only [keyT, Option.some.injEq] at e; subst e; exact .int _ _
  | .str b, v, u, k, h, r, e => by cases h; obtain ⟨t, rfl⟩ := r; simp only [keyT, Option.some.injEq] at e; subst e; exact .text _ _
  | .tup ds, v, u, k, h, r, e => by
    cases h with
    | tup sq rr =>
      cases r
      simp only [keyT] at e
      cases q : keysT ds with
      | none => rw [q] at e; cases e
      | some ks =>
        rw [q] at e
        simp only [Option.some.injEq] at e
        subst e
        obtain ⟨its, rv, ⟨o, ho, hc, n, hd⟩, _⟩ := I.tuple sq
        exact .tup ho hc hd (by simpa using nesteds_of I ds _ _ _ rr rv q)
  | .ty _, v, u, k, h, r, e => by simp only [keyT] at e; cases e
  | .rls _, v, u, k, h, r, e => by simp only [keyT] at e; cases e
  | .ref _, v, u, k, h, r, e => by simp only [keyT] at e; cases e
theorem nesteds_of (I : Inv X pins σ H s) : ∀ (ds : List D) (vs : List V) (us : List Value) (ks : List NestedKey), RepL X.K H ds vs → Vals vs us → keysT ds = some ks → NestedAll s.heap ks us
  | [], vs, us, ks, h, r, e => by cases h; cases r; simp only [keysT, Option.some.injEq] at e; subst e; exact .nil
  | d :: ds, vs, us, ks, h, r0, e => by
    cases h with
    | cons r t =>
      cases r0 with
      | cons rv rt =>
        simp only [keysT] at e
        cases q : keyT d with
        | none => rw [q] at e; cases e
        | some k =>
          cases q2 : keysT ds with
          | none => rw [q, q2] at e; cases e
          | some ks =>
            rw [q, q2] at e
            simp only [Option.some.injEq] at e
            subst e
            exact .cons (nested_of I d _ _ _ r rv q) (nesteds_of I ds _ _ _ t rt q2)
end
/-- the tuple at b is the key k -/
noncomputable def KeyAt (K : PySem.W.Frag) (H : Hp) (k : NestedKey) (b : Addr) : Prop := k.depth ≤ 8 ∧ ∃ t, keyT t = some k ∧ Rep K H t (.ref b)
theorem KeyAt.is (I : Inv X pins σ H s) {k : NestedKey} {b : Addr} (h : KeyAt X.K H k b) : (nestedKind X.prog X.w).is s.heap k b := by
  obtain ⟨h1, t, h2, h3⟩ := h
  exact ⟨nested_of I t _ _ _ h3 rfl h2, h1⟩
noncomputable def valT (kvs : List (NestedKey × D)) (k : NestedKey) : Option D := (kvs.find? fun kv => decide (kv.1 = k)).map (·.2)
noncomputable def putT (kvs : List (NestedKey × D)) (k : NestedKey) (v : D) : List (NestedKey × D) := if (valT kvs k).isSome = true then kvs.map (fun kv => if kv.1 = k then (kv.1, v) else kv) else kvs ++ [(k, v)]
theorem RepK.val {ds : List (NestedKey × D)} {xs : List (NestedKey × Addr × Value)} (h : RepK K H ds xs) (k : NestedKey) : (∀ d, valT ds k = some d → ∃ b u v, atKey xs k = some (b, u) ∧ Rep K H d v ∧ RelV v u) ∧ (valT ds k = none → atKey xs k = none) := by
  unfold valT atKey
  induction h with
  | nil => exact ⟨fun d e => by simp at e, fun _ => rfl⟩
  | @cons k' t d' b v' u ds xs e z rt r q _ ih =>
    by_cases hk : k' = k
    · subst hk
      simp only [List.find?_cons, decide_true, Option.map_some]
      exact ⟨fun d e => ⟨b, u, v', rfl, by cases e; exact r, q⟩, fun e => nomatch e⟩
    · simp only [List.find?_cons, decide_eq_false hk]
      exact ih
theorem RepK.isSome {ds : List (NestedKey × D)} {xs : List (NestedKey × Addr × Value)} (h : RepK K H ds xs) (k : NestedKey) : (atKey xs k).isSome = (valT ds k).isSome := by
  cases e : valT ds k with
  | none => rw [(h.val k).2 e]; rfl
  | some d => obtain ⟨b, u, v, e1, _⟩ := (h.val k).1 d e; rw [e1]; rfl
theorem RepK.put {ds : List (NestedKey × D)} {xs : List (NestedKey × Addr × Value)} (h : RepK K H ds xs) {k : NestedKey} {t d : D} {b : Addr} {v : V} {u : Value} (e : keyT t = some k) (z : k.depth ≤ 8) (rt : Rep K H t (.ref b)) (r : Rep K H d v) (q : RelV v u) : RepK K H (putT ds k d) (storedH xs k b u) := by
  unfold putT storedH
  rw [h.isSome k]
  split
  · rename_i hc
    clear hc
    induction h with
    | nil => exact .nil
    | @cons k' t' d' b' v' u' ds xs e' z' rt' r' q' _ ih =>
      rw [List.map_cons, List.map_cons]
      unfold putAt
      by_cases hk : k' = k
      · rw [if_pos hk, if_pos hk]; exact .cons e' z' rt' r q ih
      · rw [if_neg hk, if_neg hk]; exact .cons e' z' rt' r' q' ih
  · rename_i hc
    clear hc
    induction h with
    | nil => exact .cons e z rt r q .nil
    | cons e' z' rt' r' q' _ ih => exact .cons e' z' rt' r' q' ih
end
end L3
namespace L3
open PySem L2 PySem.Spec PyProof.Rows
section
variable {X : Cx} {cl : ClsT} {H0 : Hp} {C0 : CH} {e : Expr} {ca : CTE}
theorem cpe_nev : CPE X cl H0 C0 e fun _ _ _ => False := ⟨fun _ _ _ _ _ _ ⟨_, _, _, _, h, _⟩ => h.elim⟩
mutual
theorem snap_noDict {C : CH} : ∀ {d : D} {p : PyData}, Snap C d p → p.hasDict = false
  | _, _, .non => rfl
  | _, _, .bl _ => rfl
  | _, _, .int _ => rfl
  | _, _, .str _ => rfl
  | _, _, .tup t => by simp only [PyData.hasDict]; exact snaps_noDict t
  | _, _, .rls t => by simp only [PyData.hasDict]; exact snaps_noDict t
  | _, _, .lst _ t => by simp only [PyData.hasDict]; exact snaps_noDict t
theorem snaps_noDict {C : CH} : ∀ {d : List D} {p : List PyData}, SnapL C d p → PyData.hasDictAll p = false
  | _, _, .nil => rfl
  | _, _, .cons a b => by simp only [PyData.hasDictAll, snap_noDict a, snaps_noDict b]; rfl
end
noncomputable def rRepr (K : PySem.W.Frag) : List V → Hp → VK → Prop := fun xs H Q => ∃ x p, xs = [x] ∧ Dp K H x p ∧ p.hasDict = false ∧ p.showable = true ∧ p.shown.length ≤ sizeLine ∧ p.depth ≤ 350 ∧ Q (.str p.shown) H
theorem call_reprA (hg : X.A.guards = some []) (hu : X.A.units + 352 < cLine) : CallR X (.builtin "repr") (rRepr X.K) := by
  intro pins s σ H xs us Q I r h
  obtain ⟨x, p, rfl, hd, hn, hs, hl, hp, q⟩ := h
  cases r with
  | cons r0 t =>
  cases t
  cases hd with
  | non =>
    cases r0
    simp only [PyData.shown] at q
    exact PySem.P.repr_of_none ⟨.str _, H, I.tok _, ⟨_, rfl⟩, q⟩
  | bl b =>
    cases r0
    simp only [PyData.shown] at q
    exact PySem.P.repr_of_bool ⟨.str _, H, I.tok _, ⟨_, rfl⟩, q⟩
  | int i =>
    obtain ⟨t, rfl⟩ := r0
    simp only [PyData.shown] at q
    exact PySem.P.repr_of_int (by simpa [PyData.showable] using hs) ⟨.str _, H, I.tok _, ⟨_, rfl⟩, q⟩
  | str z =>
    obtain ⟨t, rfl⟩ := r0
    simp only [PyData.shown] at q hl
    exact PySem.P.repr_of_str ⟨.str _, H, I.tok _, ⟨_, rfl⟩, q⟩ hl
  | lst sq t =>
    cases r0
    obtain ⟨as, rd⟩ := Dp.reads I _ _ _ (.lst sq t) rfl
    exact repr_of_reads' rd hs (fun z => by rw [hn] at z; cases z) hg (by omega) (fun _ _ e => e) (fun h' u tk hk => ⟨.str _, H, I.kept hk, ⟨_, rfl⟩, q⟩) hl
  | tup sq t =>
    cases r0
    obtain ⟨as, rd⟩ := Dp.reads I _ _ _ (.tup sq t) rfl
    exact repr_of_reads' rd hs (fun z => by rw [hn] at z; cases z) hg (by omega) (fun _ _ e => e) (fun h' u tk hk => ⟨.str _, H, I.kept hk, ⟨_, rfl⟩, q⟩) hl
noncomputable def oRepr : OL := fun xs C Q => ∃ x p, xs = [x] ∧ Snap C x p ∧ p.showable = true ∧ p.shown.length ≤ sizeLine ∧ p.depth ≤ 350 ∧ Q (.str p.shown) C
theorem lk_repr {K : PySem.W.Frag} : LkL K cl (rRepr K) oRepr := fun H C ds vs Q Qc rs R ⟨x, p, h1, h2, h3, h4, h5, q⟩ hq => by
  subst h1
  obtain ⟨v, rfl, r⟩ := rs.one
  exact ⟨v, p, rfl, h2.dp R r, snap_noDict h2, h3, h4, h5, hq.now q (.str _) R⟩
end
end L3
namespace L3
open PySem L2 PySem.Spec PyProof.Rows
/-- a class with an __eq__ of its own, and no __ne__ -/
structure OwnE (K : PySem.W.Frag) (Ca f : Addr) : Prop where
  eq : PySem.W.findIn K (.ref Ca) "__eq__" = some (some (.ref f))
  fn : PySem.W.isFn K (.ref f) = true
  ne : PySem.W.findIn K (.ref Ca) "__ne__" = some (some (.builtin "object.__ne__"))
  ob : PySem.W.mroIn K Ca (.type "object") = some true
end L3
namespace L3N
open PySem PySem.Spec PyProof.Rows
/-- the pairs that were laid -/
structure ZPairs (h0 h : Heap) (S : Addr) (xs ys : Array Value) (ts : List Addr) : Prop where
  tup : ∀ (j : Nat) (t : Addr), ts[j]? = some t → (∃ x y, xs[j]? = some x ∧ ys[j]? = some y ∧ IsTupOf2 h t x y) ∧ t ≠ S ∧ h0.objs.size ≤ t
  nod : ts.Nodup
  hS : ∃ c, h.get? S = some { cls := .type "list", data := .seq (ts.map Value.ref).toArray c }
  keep : ∀ b o, h0.get? b = some o → h.get? b = some o
structure ZOff (h0 : Heap) (z TI TO i1 i2 S : Addr) (fp1 fp2 : List Addr) : Prop where
  D : ZipSep2 z TI TO i1 i2 fp1 fp2
  Sz : S ≠ z
  STI : S ≠ TI
  STO : S ≠ TO
  S1 : S ∉ fp1
  S2 : S ∉ fp2
  gz : h0.objs.size ≤ z
  gTO : h0.objs.size ≤ TO
  gi1 : h0.objs.size ≤ i1
  gi2 : h0.objs.size ≤ i2
  gS : h0.objs.size ≤ S
section
variable {prog : Program} {w : World} {A : Around} {s : Shared} {h0 h h' : Heap} {z TI TO i1 i2 S : Addr} {fp1 fp2 : List Addr} {St1 St2 : Nat → Heap → Prop} {xs ys : Array Value} {i : Nat} {ts : List Addr}
/-- one more pair in the list -/
theorem ZPairs.push {x y : Value} {t : Addr} (O : ZOff h0 z TI TO i1 i2 S fp1 fp2) (p : ZPairs h0 h S xs ys ts) (hx : xs[ts.length]? = some x) (hy : ys[ts.length]? = some y) (ht : IsTupOf2 h t x y) (htS : t ≠ S) (htn : t ∉ ts) (hg : h0.objs.size ≤ t) :
    ZPairs h0 (h.update S (Obj.mapSeq (·.push (.ref t)))) S xs ys (ts ++ [t]) := by
  obtain ⟨c, hS⟩ := p.hS
  have oth : ∀ b o, b ≠ S → h.get? b = some o → (h.update S (Obj.mapSeq (·.push (.ref t)))).get? b = some o := fun b o hb e => (Heap.get?_update_other _ _ (Ne.symm hb)).trans e
  refine ⟨fun j u e => ?_, ?_, ?_, fun b o e => ?_⟩
  · by_cases hj : j < ts.length
    · rw [List.getElem?_append_left hj] at e
      obtain ⟨⟨x', y', e1, e2, e3⟩, r1, r2⟩ := p.tup j u e
      exact ⟨⟨x', y', e1, e2, oth _ _ r1 e3⟩, r1, r2⟩
    · rw [List.getElem?_append_right (by omega)] at e
      cases hk : j - ts.length with
      | zero =>
        rw [hk] at e
        simp only [List.getElem?_cons_zero, Option.some.injEq] at e
        subst e
        have ej : j = ts.length := by omega
        rw [ej]
        exact ⟨⟨x, y, hx, hy, oth _ _ htS ht⟩, htS, hg⟩
      | succ k => rw [hk] at e; simp at e
  · refine List.nodup_append.mpr ⟨p.nod, by simp, fun a ha b hb => ?_⟩
    rw [List.mem_singleton.mp hb]
    exact fun e => htn (e ▸ ha)
  · have e : (List.map Value.ref (ts ++ [t])).toArray = (List.map Value.ref ts).toArray.push (.ref t) := by simp
    rw [e]
    exact ⟨_, Heap.get?_update_self (Obj.mapSeq (·.push (.ref t))) hS rfl⟩
  · have hb := Heap.lt_size e
    exact oth _ _ (Nat.ne_of_lt (Nat.lt_of_lt_of_le hb O.gS)) (p.keep b o e)
end
end L3N
namespace L3
open PySem L2 PySem.Spec PyProof.Rows
end L3
namespace L3
open PySem L2 PySem.Spec PyProof.Rows
end L3
namespace L3
open PySem L2 PySem.Spec PyProof.Rows
section
variable {X : Cx} {cl : ClsT} {H0 : Hp} {C0 : CH} {ca cb : CTE} {a b : Expr} {pos : Pos} {Ca fa : Addr} {fd : FuncData} {ps : List Str} {k c np : Nat} {sem : SemF} {g : List Src}
structure OwnL (K : PySem.W.Frag) (Ca f : Addr) : Prop where
  len : PySem.W.findIn K (.ref Ca) "__len__" = some (some (.ref f))
  fn : PySem.W.isFn K (.ref f) = true
end
end L3
set_option maxHeartbeats 1000000
namespace L3
open PySem PySem.Spec PyProof.Rows L2
end L3
set_option maxHeartbeats 1000000
namespace L3
open PySem PySem.Spec PyProof.Rows L2
end L3
namespace L3
open PySem L2 PySem.Spec PyProof.Rows
section
variable {X : Cx} {cl : ClsT} {H0 : Hp} {C0 : CH} {ca cb : CTE} {a b : Expr} {pos : Pos} {Ca fa : Addr} {fd : FuncData} {ps : List Str} {k c np : Nat} {sem : SemF} {g : List Src} {ex : Kxs}
structure OwnB (K : PySem.W.Frag) (Ca f : Addr) : Prop where
  mt : Meth K Ca "__or__" f
  sf : PySem.W.selfFirst K Ca = true
end
end L3
namespace L3
open PySem L2 PySem.Spec PyProof.Rows
/-- the context that knows the object at a -/
noncomputable abbrev pinX (X : Cx) (a : Addr) (oe : Obj) : Cx := { X with pn := (a, oe) :: X.pn }
section
variable {X : Cx} {pins : List (Addr × Obj)} {σ : L2.St} {H : Hp} {s : Shared}
theorem pinOk (k : X.Ok) (a : Addr) (oe : Obj) : (pinX X a oe).Ok :=
  ⟨k.mod, k.kind, k.glob, k.blt, k.above, k.inj, k.has, k.cab, k.hd, k.frames, k.stk, k.exf,
    k.bs, k.bsz, k.noex, k.exfs, k.funs, k.frf⟩
theorem pin_of_suite {a : Addr} {oe : Obj} (k : X.Ok) (I : Inv (X.suite a ((a, oe) :: (X.pn ++ pins))) [] σ H s) : Inv (pinX X a oe) pins σ H s :=
  ⟨pinOk k a oe, I.os, I.bare, I.base, I.loc, I.cell, I.free, I.freeC,
    fun p hp => I.pin p (by rw [List.append_nil]; exact hp), I.hok, I.len⟩
theorem unpin {a : Addr} {oe : Obj} (k : X.Ok) (I : Inv (pinX X a oe) pins σ H s) : Inv X pins σ H s :=
  ⟨k, I.os, I.bare, I.base, I.loc, I.cell, I.free, I.freeC,
    fun p hp => I.pin p (List.mem_cons_of_mem _ hp), I.hok, I.len⟩
theorem SP_unpin {a : Addr} {oe : Obj} {D : Ends} {f : Flow} (k : X.Ok) (h : SP (pinX X a oe) pins D f s) : SP X pins D f s := by
  cases f with
  | next => obtain ⟨σ1, H1, J, q⟩ := h; exact ⟨σ1, H1, unpin k J, q⟩
  | brk => obtain ⟨σ1, H1, J, q⟩ := h; exact ⟨σ1, H1, unpin k J, q⟩
  | cont => obtain ⟨σ1, H1, J, q⟩ := h; exact ⟨σ1, H1, unpin k J, q⟩
  | ret v => obtain ⟨w, σ1, H1, J, r, q⟩ := h; exact ⟨w, σ1, H1, unpin k J, r, q⟩
end
/-- what the clause wishes: ts the suite, tk what stands behind the try -/
noncomputable def wKeep (K : PySem.W.Frag) (c : Value) (i : Nat) (ts : Addr → Value → TS) (tk : Addr → Value → Option Addr → TS) (Wout : WX) (D : Ends) : WX := fun cls d σ H =>
  ∃ b, PySem.W.exmOne K cls c = some b ∧
    (b = true → ∀ a, H a = none → ts a cls { nx := fun σ1 H1 => tk a cls d D (σ1.set i none) H1, rt := fun _ _ => False } (σ.set i (some (.ref a))) H) ∧
    (b = false → Wout cls d σ H)
section
variable {X : Cx} {x n : Str} {c : Value} {i : Nat} {body suite rest : List Stmt} {b0 : Stmt} {np pos pos' : Pos} {tb : WX → TS} {ts : Addr → Value → TS} {tk : Addr → Value → Option Addr → TS} {tr : TS} {Wout : WX}
theorem pss_try_keep (hs : X.stack = X.env :: X.outer) (hf : X.env.frame = some X.env.locals) (hN : X.N.Nodup) (hi : X.N[i]? = some n) (hln : X.env.kindOf n = some .local) (hc : Names X x c) (tkO : Takes X Wout)
    (hb : ∀ (W : WX) (pn : List (Addr × Obj)) (xe : Value → Shared → Prop), Takes (X.tr pn xe) W → PassesOwn (model X.prog X.w) X.A X.env xe → PSs (X.tr pn xe) body (tb W))
    (hsu : ∀ (a : Addr) (oe : Obj) (cls : Value) (pn : List (Addr × Obj)), PSs (X.suite a ((a, oe) :: pn)) (b0 :: suite) (ts a cls))
    (hr : PSs X rest tr) (hk : ∀ (a : Addr) (oe : Obj) (cls : Value) (d : Option Addr), Zc cls d oe → (∃ vs, oe.data = .fields vs) → PSs (pinX X a oe) rest (tk a cls d)) :
    PSs X (.Try body [.ExceptHandler (some (.Name x np)) (some n) (b0 :: suite) pos'] [] [] pos :: rest) (fun D σ H => tb (wKeep X.K c i ts tk Wout D) { D with nx := tr D } σ H) := by
  constructor
  intro pins s0 σ0 H0 D I h
  have k := I.ok
  have hA : X.A.frames = some (X.env :: X.outer) := k.frames.trans (by rw [hs])
  have hloc : Loc X.env.scope n := Or.inl hln
  refine wpAny_execs_cons (wpAny_Try_except ?_)
  let R : Flow → Shared → Prop := fun f s1 => match f with
    | .next => wpAny (model X.prog X.w) X.A (execs rest X.env) (SP X pins D) X.xe s1
    | g => SP X pins D g s1
  have through : ∀ (f : Flow) (s1 : Shared), SP (X.tr (X.pn ++ pins) fun e s1 => wpAny (model X.prog X.w) X.A (noteFrame e X.env) (fun _ s2 => wpAny (model X.prog X.w) X.A (setFlight e none)
        (fun _ s3 => wpAny (model X.prog X.w) X.A (handleBy e X.env [.ExceptHandler (some (.Name x np)) (some n) (b0 :: suite) pos']) R X.xe s3) X.xe s2) X.xe s1) [] { D with nx := tr D } f s1 →
      (match f with | .next => wpAny (model X.prog X.w) X.A (execs [] X.env) R X.xe s1 | g => R g s1) := by
    intro f s1 q
    cases f with
    | next =>
      obtain ⟨σ1, H1, J, q1⟩ := q
      exact wpAny_execs_nil (hr.run pins s1 σ1 H1 D (J.ofTry k) q1)
    | brk => obtain ⟨σ1, H1, J, q1⟩ := q; exact ⟨σ1, H1, J.ofTry k, q1⟩
    | cont => obtain ⟨σ1, H1, J, q1⟩ := q; exact ⟨σ1, H1, J.ofTry k, q1⟩
    | ret v => obtain ⟨w, σ1, H1, J, r, q1⟩ := q; exact ⟨w, σ1, H1, J.ofTry k, r, q1⟩
  refine wpAny_mono ((hb (wKeep X.K c i ts tk Wout D) (X.pn ++ pins) _ (fun u s1 air => ?_) PassesOwn.looking).run [] s0 σ0 H0 _ (I.toTry _) h) through (fun _ _ q => q)
  -- the exception lands
  obtain ⟨a, G, t0, pins1, σ1, H1, cls, d, eu, J0, below, upto, sky, fresh, os0, bare0, b, hcls, yes, no⟩ := air
  subst eu
  have J : Inv X pins σ1 H1 t0 := J0.ofTry k
  have sky1 : Sky G (X.env :: X.outer) a (Zc cls d) X.env.locals s1.heap := hs ▸ sky
  refine Sky.land Zc.steady hA hf sky1 fun g3 fly3 up3 => ?_
  have at_ : ∀ g, HandSPX.FlyingZ G (X.env :: X.outer) a (Zc cls d) g → s1.heap.UpToSlots g → L2.Inv X pins σ1 H1 { s1 with heap := g } := fun g fl up =>
    J.landed below fl.1 (upto.trans up) os0 bare0
  have I3 := at_ g3 fly3 up3
  obtain ⟨o3, v3, at3, z3, f3⟩ := fly3.there
  have away : a ∉ frs (X.env :: X.outer) := fun hm => by
    obtain ⟨_, o1, at1, nf⟩ := fly3.2.2.1.mem hm
    cases at3.symm.trans at1
    exact nf _ f3
  have offL : a ≠ X.env.locals := fun z => away (List.mem_filterMap.mpr ⟨X.env, List.mem_cons_self, hf.trans (congrArg some z.symm)⟩)
  have offF : a ∉ X.fs := fun hm => by
    obtain ⟨e1, m1, q1⟩ := List.mem_filterMap.mp hm
    exact away (List.mem_filterMap.mpr ⟨e1, List.mem_cons_of_mem _ m1, q1⟩)
  have T3 := I3.suite at3 f3 fresh offL offF
  refine wpAny_handleBy_cons (codeAny_handlers_test ?_) (by intro q; cases q)
  have isCls : PySem.W.Looks (model X.prog X.w) g3 (typeOf (.ref a)) cls := fun A' Q' E' t kp q => wpAny_typeOf_ref (kp _ _ at3) (z3.1 ▸ q)
  have asks := PySem.W.exm_one (M := model X.prog X.w) I3.kIn isCls hcls
  have named : ∀ {Q1 : Value → Shared → Prop} {E1 : Value → Shared → Prop}, Q1 c { s1 with heap := g3 } →
      wpAny (model X.prog X.w) (X.A.mark (some (.ref a))) (eval (.Name x np) X.env) Q1 E1 { s1 with heap := g3 } := fun {Q1 E1} q => by
    obtain ⟨gl, nd, own | ⟨no1, boot, nn⟩⟩ := hc
    · exact ld_glob (X := X.suite a ((a, o3) :: (X.pn ++ pins))) T3 gl own q nd
    · exact ld_blt (X := X.suite a ((a, o3) :: (X.pn ++ pins))) T3 gl no1 boot q nn nd
  refine named (asks.here ?_)
  cases b with
  | true =>
    refine codeAny_handlers_suite_as ?_
    refine HandSPX.lands_againZ fly3 fun g4 fly4 up4 => ?_
    have I4 := at_ g4 fly4 (up3.trans up4)
    obtain ⟨o4, v4, at4, z4, f4⟩ := fly4.there
    have T4 := I4.suite at4 f4 fresh offL offF
    refine store_ok (X := X.suite a ((a, o4) :: (X.pn ++ pins))) (v := .ref a) T4 hN hi hloc rfl (fun s5 T5 => ?_) (.inr hln)
    refine wpAny_mono ((hsu a o4 cls (X.pn ++ pins)).run [] s5 _ H1 _ T5 (yes rfl a fresh)) (fun f s6 q => ?_) (fun _ _ z => z.elim)
    cases f with
    | next =>
      obtain ⟨σ6, H6, T6, q6⟩ := q
      refine gone_ok (X := pinX X a o4) (pin_of_suite k T6) hN hi hln fun s7 I7 => ?_
      refine wpAny_mono ((hk a o4 cls d z4 ⟨_, f4⟩).run pins s7 _ H6 D I7 q6) (fun g s8 q8 => SP_unpin k q8) fun _ _ z => z
    | brk => obtain ⟨σ6, H6, T6, q6⟩ := q; exact q6.elim
    | cont => obtain ⟨σ6, H6, T6, q6⟩ := q; exact q6.elim
    | ret v => obtain ⟨w, σ6, H6, T6, r6, q6⟩ := q; exact q6.elim
  | false =>
    -- no clause takes it: it goes on
    refine wpAny_handleBy_nil ?_
    obtain ⟨_, _, _, o5, v5, P5, oP, vP, at5, _, f5, first5, _⟩ := id fly3
    have on : wpAny (model X.prog X.w) X.A (setFlight (.ref a) X.env.frame) (fun _ s4 => wpAny (model X.prog X.w) X.A (throw (.ref a) : Sem Flow) R X.xe s4) X.xe { s1 with heap := g3 } := by
      refine hf ▸ HandSPX.setFlight_upZ fly3 fun g4 held up4 => wpAny_throw (tkO _ _ ?_)
      exact ⟨a, G, t0, pins, σ1, H1, cls, d, rfl, J, below, (upto.trans up3).trans up4,
        Or.inr (Or.inr (by rw [hs]; exact held)), fresh, os0, bare0, no rfl⟩
    unfold PySem.passOn
    refine wpAny_bind (wpAny_field at5 f5 first5 ?_)
    have some5 : (Value.ref P5 == Value.none) = false := by simp
    rw [some5, if_neg Bool.false_ne_true]
    first
      | exact wpAny_bind (wpAny_pure (wpAny_bind on))
      | exact wpAny_bind on
end
section
variable {X : Cx} {cl : ClsT} {H0 : Hp} {C0 : CH} {ex : Kxs}
theorem cpss_try_keep {x n : Str} {i : Nat} {c : Value} {body suite rest : List Stmt} {b0 : Stmt} {np pos pos' : Pos} {sub : Nat → Bool} {b : Kxs → CTS} {s r : CTS} {kk : Addr → Nat → CTS}
    (hs : X.stack = X.env :: X.outer) (hf : X.env.frame = some X.env.locals) (hN : X.N.Nodup) (hi : X.N[i]? = some n) (hln : X.env.kindOf n = some .local) (hc : Names X x c) (hsub : SubOk X.K cl c sub) (tk : Takes X (WC X.K cl H0 C0 ex))
    (hb : ∀ (pn : List (Addr × Obj)) (xe : Value → Shared → Prop) (ex' : Kxs) (H1 : Hp) (C1 : CH), Keep H0 C0 H1 C1 → Takes (X.tr pn xe) (WC X.K cl H1 C1 ex') → PassesOwn (model X.prog X.w) X.A X.env xe → CPSs (X.tr pn xe) cl H1 C1 body (b ex'))
    (hsu : ∀ (a : Addr) (oe : Obj) (pn : List (Addr × Obj)), CPSs (X.suite a ((a, oe) :: pn)) cl H0 C0 (b0 :: suite) s)
    (hr : CPSs X cl H0 C0 rest r) (hk : ∀ (a : Addr) (oe : Obj) (cc : Nat) (Ca : Addr), cl cc = some Ca → Zc (.ref Ca) none oe → (∃ vs, oe.data = .fields vs) → CPSs (pinX X a oe) cl H0 C0 rest (kk a cc)) :
    CPSs X cl H0 C0 (.Try body [.ExceptHandler (some (.Name x np)) (some n) (b0 :: suite) pos'] [] [] pos :: rest)
      (fun D σ C => b (fun y σ1 C1 => if sub y.cls = true then y.fs = [] ∧ ∀ a, C1 a = none → s { nx := fun σ2 C2 => kk a y.cls D (σ2.set i none) C2, rt := fun _ _ => False } (σ1.set i (some (.ref a))) C1 else ex y σ1 C1) { D with nx := fun σ2 C2 => r D σ2 C2 } σ C) :=
  (pss_try_keep (tb := fun W D σ H => ∃ ex' H1 C1, Keep H0 C0 H1 C1 ∧ (∀ cls d σ H, WC X.K cl H1 C1 ex' cls d σ H → W cls d σ H) ∧ tS X.K cl H1 C1 (b ex') D σ H) (ts := fun _ _ => tS X.K cl H0 C0 s)
      (tk := fun a cls d D σ H => ∃ cc Ca, cl cc = some Ca ∧ cls = .ref Ca ∧ d = none ∧ tS X.K cl H0 C0 (kk a cc) D σ H) (tr := tS X.K cl H0 C0 r) hs hf hN hi hln hc tk
    (fun W pn xe tk' po => ⟨fun pins st σ H D I ⟨ex', H1, C1, hk, hw, h⟩ => (hb pn xe ex' H1 C1 hk (tk'.imp hw) po).run pins st σ H D I h⟩)
    (fun a oe _ pn => hsu a oe pn) hr
    (fun a oe cls d z f => ⟨fun pins st σ H D I ⟨cc, Ca, h1, h2, h3, h⟩ => by subst h2; subst h3; exact (hk a oe cc Ca h1 z f).run pins st σ H D I h⟩)).imp fun D σ H ⟨σc, C, Dc, S, h, hq⟩ => by
    refine ⟨_, H, C, S.f, fun cls d σ1 H1 ⟨y, σ2, C1, hy, ⟨Ca, e1, e2, e3⟩, S1⟩ => ?_, σc, C, { Dc with nx := fun σ2 C2 => r Dc σ2 C2 }, ⟨S.s, S.r, Keep.refl⟩, h, ⟨fun σ2 C2 σ3 H3 q rp R kp => ⟨σ2, C2, Dc, ⟨rp, R, S.f.trans kp⟩, q, hq.from_ kp⟩, hq.rt, hq.bk, hq.ct⟩⟩
    · subst e2
      have S2 : S3 X.K cl H0 C0 σ1 H1 σ2 C1 := ⟨S1.s, S1.r, S.f.trans S1.f⟩
      refine ⟨_, hsub _ _ e1, fun yes a fresh => ?_, fun no => ?_⟩
      · have hy' : y.fs = [] ∧ ∀ a, C1 a = none → s { nx := fun σ2 C2 => kk a y.cls Dc (σ2.set i none) C2, rt := fun _ _ => False } (σ2.set i (some (.ref a))) C1 := by
          have := hy
          simp only [yes, if_true] at this
          exact this
        obtain ⟨f0, hy'⟩ := hy'
        have dn : d = none := by
          rcases e3 with ⟨e3, _⟩ | ⟨_, _, ne, _⟩
          · exact e3
          · exact (ne f0).elim
        have hq1 := hq.from_ S1.f
        refine ⟨_, C1, _, ⟨S2.s.set (.ref a) i, S2.r, S2.f⟩, hy' a (free_of S2.r fresh), ⟨fun σ3 C3 σ4 H4 q rp R kp => ?_, fun _ _ _ _ z => z.elim, fun _ _ _ _ z => z.elim, fun _ _ _ _ z => z.elim⟩⟩
        exact ⟨y.cls, Ca, e1, rfl, dn, _, C3, Dc, ⟨rp.wipe1 i, R, S2.f.trans kp⟩, q, hq1.from_ kp⟩
      · have hy' : ex y σ2 C1 := by
          have := hy
          simp only [no, Bool.false_eq_true, if_false] at this
          exact this
        exact ⟨y, σ2, C1, hy', ⟨Ca, e1, rfl, e3⟩, S2⟩
noncomputable def rIsP (K : PySem.W.Frag) (Da a : Addr) : List V → Hp → VK → Prop := fun xs H Q =>
  ∃ (c : V) (cv : Value) (b : Bool), xs = [.ref a, c] ∧ (∀ u, RelV c u → u = cv) ∧ PySem.W.kitOne K (.ref Da) cv = some b ∧ Q (.bl b) H
theorem call_isP {a Da : Addr} {oe : Obj} (hp : (a, oe) ∈ X.pn) (C : ExcC X.K Da) (hz : Zc (.ref Da) none oe) (hf : ∃ vs, oe.data = .fields vs) : CallR X (.builtin "isinstance") (rIsP X.K Da a) := by
  intro pins s σ H xs us Q I r ⟨c, cv, b, ex, hcv, e, q⟩
  subst ex
  cases r with
  | cons rx rr =>
  cases rr with
  | cons rt rr =>
  cases rr
  cases rx
  have ec := hcv _ rt
  subst ec
  have at_ := (I.pin (a, oe) (List.mem_append_left _ hp)).1
  obtain ⟨vs, hv⟩ := hf
  have J : PySem.W.InstAt s.heap a oe Da none := by
    obtain ⟨k1, k2, k3, k4⟩ := oe
    obtain ⟨h1, h2⟩ := hz
    dsimp only at h1 h2 hv
    subst h1 h2 hv
    exact ⟨at_, rfl, rfl, trivial⟩
  exact PySem.W.kia_one (PySem.W.handS_kitx_exc C.hg C.hk C.hs C.hd C.ha C.hn C.ht C.hm) I.kIn J e
    (fun z => nomatch z) fun tk => ⟨.bl b, H, I.kept (t' := tk) fun _ _ z => z, rfl, q⟩
/-- isinstance(name j, u): the name holds what was caught, of the class cc -/
noncomputable def cIsx (ans : List (Nat × Bool)) (j : Nat) (a : Addr) (cc : Nat) : CTE := fun σ C Q => σ[j]? = some (some (.ref a)) ∧ ∃ b, ans.lookup cc = some b ∧ Q (.bl b) C
theorem cpe_isx {ans : List (Nat × Bool)} {u : String ⊕ Nat} {e c : Expr} {p pos : Pos} {vc : V} {j : Nat} {a Da : Addr} {cc : Nat} {oe : Obj} (hkit : ∀ b, ans.lookup cc = some b → ∃ vu, tyVal cl u = some vu ∧ PySem.W.kitOne X.K (.ref Da) vu = some b)
    (hp : (a, oe) ∈ X.pn) (C : ExcC X.K Da) (hz : Zc (.ref Da) none oe) (hfl : ∃ vs, oe.data = .fields vs) (he : CPE X cl H0 C0 e (cVar j)) (hc : PE X c (tC vc)) (hcv : ∀ w, tyVal cl u = some w → ClsV vc w) (hg : Gl X "isinstance") (hm : X.mg "isinstance" = none)
    (h1 : notStar e = true) (h2 : notStar c = true) : CPE X cl H0 C0 (.Call (.Name "isinstance" p) [e, c] [] pos) (cIsx ans j a cc) :=
  (pe_callB (call_isP hp C hz hfl) hg hm (by decide +kernel) (pa_cons he (pa_cons hc pa_nil (star_of h2)) (star_of h1)) (by decide) (by decide) (star_of h1) (star_any (by simp [h2]))).imp fun σ H Q ⟨σc, C1, Qc, S, ⟨ha, b, hb, q⟩, hq⟩ =>
    ⟨σc, C1, fun d C2 => d = .ref a ∧ C2 = C1, S, ⟨_, ha, rfl, rfl⟩, fun d C2 v H1 ⟨hd, hC⟩ rv R1 k1 => by
      subst hd; subst hC
      cases rv
      obtain ⟨vu, e1, e2⟩ := hkit b hb
      refine ⟨vc, vu, b, rfl, ?_, e2, (hq.from_ k1).now q (.bl b) R1⟩
      have cv := hcv vu e1
      intro w rw_
      cases cv with
      | ty n => cases rw_; rfl
      | own Ca => cases rw_; rfl⟩
end
end L3
namespace L3
open PySem L2 PySem.Spec PyProof.Rows
end L3
namespace L3S
open PySem PySem.Spec PyProof.Rows SS
section
variable {pr : Program} {wd : World} {B : Around} {E : Value → Shared → Prop} {s : Shared}
noncomputable abbrev fr (led : Bool) : Obj := { cls := .type "set", dict := none, data := .set #[] 0 (.fresh 0 0 led) }
end
end L3S
namespace L3
open PySem L2 PySem.Spec PyProof.Rows L3S
section
variable {X : Cx} {cl : ClsT} {H0 : Hp} {C0 : CH} {ca co : CTE} {a e o : Expr} {pos : Pos}
/-- what a written dict tells at a word: a number, some words -/
inductive GV where
  | int (i : Int) | wds (ws : List Str)
  deriving DecidableEq
noncomputable def GV.d : GV → D
  | .int i => .int i
  | .wds ws => .tup (ws.map D.str)
/-- no such key -/
noncomputable def KNo (K : PySem.W.Frag) (w : World) (a : Addr) (x : Str) : Prop := ∃ es n, K.lookup a = some ⟨.type "dict", none, .dict es n, #[]⟩ ∧ PySem.W.KeysLit w.params es.toList ∧ PySem.W.nsIn K a x = some none
/-- a written dict that tells names, the whole of it -/
structure WDct (K : PySem.W.Frag) (w : World) (p : Addr) (tab : List (Str × GV)) : Prop where
  big : p ≠ sysModules
  kd : ∃ es n, KDict K w p es n
  at_ : ∀ z g, tab.lookup z = some g → ∃ v, KDct K w p z v ∧ ∀ H, Rep K H g.d v
  no : ∀ z, tab.lookup z = none → KNo K w p z
noncomputable def tGetW (K : PySem.W.Frag) (w : World) (p : Addr) (ta tb : TE) : TE := fun σ H Q => ta σ H fun x H1 => tb σ H1 fun y H2 => ∃ z : Str, x = .str z ∧ ((∃ v, KDct K w p z v ∧ Q v H2) ∨ (KNo K w p z ∧ Q y H2))
theorem pe_getW {p : Addr} {n : Str} {np ap cp : Pos} {b : Expr} {ta tb : TE} (hg : Gl X n) (hm : X.mg n = some (.ref p)) (hp : p ≠ sysModules) (ha : PE X a ta) (hb : PE X b tb) (nd : (n == ("__debug__" : Str)) = false)
    (h1 : attributeBase (.Name n np) "get" X.env (eval (.Name n np) X.env) = eval (.Name n np) X.env) (h2 : (ap.endLine == cp.line) = true) (s1 : starEach [a, b] X.env = (false, eval a X.env) :: starEach [b] X.env) (s2 : starEach [b] X.env = [(false, eval b X.env)])
    (few : ((backTo cp (starEach [a, b] X.env)).all (fun x => !x.1) && (backToKw cp (keywordEach [] X.env)).all (fun x => x.1.isSome) && decide (([a, b] : List Expr).length + ([] : List Keyword).length + (if ([] : List Keyword).isEmpty then 0 else 1) < 30)) = true)
    (ex : ∃ es m, X.K.lookup p = some ⟨.type "dict", none, .dict es m, #[]⟩) :
    PE X (.Call (.Attribute (.Name n np) "get" ap) [a, b] [] cp) (tGetW X.K X.w p ta tb) := by
  refine ⟨fun pins s σ H Q I h => wpAny_Call_method h1 few h2 F.plainAttrs_dict F.slot_dict_get F.type_dict_get (thn ((pe_glob (v := .ref p) hg hm rfl nd).run pins s σ H (fun v H1 => v = .ref p ∧ H1 = H) I ⟨rfl, rfl⟩) fun u s1' ⟨x, H1, I1, rx, e1, e2⟩ => ?_)⟩
  subst e1; subst e2
  obtain rfl : u = Value.ref p := rx
  obtain ⟨es0, m0, k0⟩ := ex
  have g0 := I1.kIn p _ k0
  refine ⟨⟨_, g0, rfl⟩, fun c e => by cases e; exact ⟨_, g0, rfl⟩, ?_⟩
  have tr : backTo cp (starEach [a, b] X.env) = [(false, eval a X.env), (false, eval b X.env)] := by rw [s1, s2]; rfl
  rw [tr]
  refine Calls.callWith_builtin rfl (Calls.evalArgs_plain (Calls.spliced_cons (thn (ha.run pins s1' σ _ _ I1 h) fun u1 s2' ⟨y, H2, I2, ry, q2⟩ => Calls.spliced_cons (thn (hb.run pins s2' σ H2 _ I2 q2) fun u2 s3 ⟨d, H3, I3, rd, z, e3, q3⟩ => Calls.spliced_nil ?_))))
  subst e3
  obtain ⟨t, rfl⟩ := ry
  rcases q3 with ⟨v, kd, q3⟩ | ⟨kd, q3⟩
  · obtain ⟨es, m, w0, l1, l2, l3, l4⟩ := kd
    have mp := PySem.W.mapOf_K (prog := X.prog) (w := X.w) I3.kIn l1 l2
    refine call_meetsIn F.slot_dict_get mp.typeIs F.entry_dict_get (F.args_dict_get_3 _ _ _) (meets_dict_get_default (strKind X.prog X.w) p (strKind_is X.prog X.w z t) (beq_eq_false_iff_ne.mpr hp) u2) ⟨_, mp, v, H3, I3.tok _, ?_, q3⟩
    rw [PySem.W.find_K l1 l3]
    exact l4
  · obtain ⟨es, m, l1, l2, l3⟩ := kd
    have mp := PySem.W.mapOf_K (prog := X.prog) (w := X.w) I3.kIn l1 l2
    refine call_meetsIn F.slot_dict_get mp.typeIs F.entry_dict_get (F.args_dict_get_3 _ _ _) (meets_dict_get_default (strKind X.prog X.w) p (strKind_is X.prog X.w z t) (beq_eq_false_iff_ne.mpr hp) u2) ⟨_, mp, d, H3, I3.tok _, ?_, q3⟩
    rw [PySem.W.find_K l1 l3]
    exact rd
/-- str(i) -/
noncomputable def oStrI : OL := fun xs C Q => ∃ i : Int, xs = [.int i] ∧ i.natAbs.log2 < 1920 ∧ Q (.str (toString i)) C
theorem lk_strI {K : PySem.W.Frag} : LkL K cl (fun xs H Q => ∃ i : Int, xs = [.int i] ∧ i.natAbs.log2 < 1920 ∧ Q (.str (toString i)) H) oStrI := fun H C ds vs Q Qc rs R ⟨i, h1, h2, q⟩ hq => by
  subst h1
  cases rs with
  | cons r rr => cases r; cases rr; exact ⟨i, rfl, h2, hq.now q (.str _) R⟩
noncomputable def cGetW (tab : List (Str × GV)) (a b : CTE) : CTE := fun σ C Q => a σ C fun d C1 => b σ C1 fun e C2 => ∃ z, d = .str z ∧ match tab.lookup z with | some g => Q g.d C2 | none => Q e C2
theorem cpe_getW {p : Addr} {n : Str} {np ap cp : Pos} {b : Expr} {cb : CTE} {tab : List (Str × GV)} (hg : Gl X n) (hm : X.mg n = some (.ref p)) (D : WDct X.K X.w p tab) (ex : ∃ es m, X.K.lookup p = some ⟨.type "dict", none, .dict es m, #[]⟩) (ha : CPE X cl H0 C0 a ca) (hb : CPE X cl H0 C0 b cb)
    (nd : (n == ("__debug__" : Str)) = false) (h2 : (ap.endLine == cp.line) = true) (sa : notStar a = true) (sb : notStar b = true) : CPE X cl H0 C0 (.Call (.Attribute (.Name n np) "get" ap) [a, b] [] cp) (cGetW tab ca cb) :=
  (pe_getW hg hm D.big ha hb nd (base_of rfl) h2 (star_of sa) (star_of sb) (few_of (by simp [sa, sb]) (show 2 < 30 by decide)) ex).imp fun σ H Q ⟨σc, C, Qc, S, h, hq⟩ => ⟨σc, C, _, S, h, fun d C1 v H1 h1 rv R1 k1 => ⟨σc, C1, _, S.step k1 R1, h1, fun e C2 u H2 ⟨z, e1, q⟩ ru R2 k2 => by
    subst e1
    cases rv
    cases l : tab.lookup z with
    | some g =>
      rw [l] at q
      obtain ⟨v, kd, rp⟩ := D.at_ z _ l
      exact ⟨z, rfl, .inl ⟨v, kd, hq _ _ _ _ q (rp _) R2 (k1.trans k2)⟩⟩
    | none =>
      rw [l] at q
      exact ⟨z, rfl, .inr ⟨D.no z l, hq _ _ _ _ q ru R2 (k1.trans k2)⟩⟩⟩⟩
/-- X[b], X a written dict -/
noncomputable def cGIx (tab : List (Str × GV)) (b : CTE) : CTE := fun σ C Q => b σ C fun d C1 => ∃ z g, d = .str z ∧ tab.lookup z = some g ∧ Q g.d C1
theorem cpe_gix {p : Addr} {n : Str} {np : Pos} {b : Expr} {cb : CTE} {pos : Pos} {tab : List (Str × GV)} (hg : Gl X n) (hm : X.mg n = some (.ref p)) (D : WDct X.K X.w p tab) (hb : CPE X cl H0 C0 b cb) (hs : notSlice b = true) (nd : (n == ("__debug__" : Str)) = false) :
    CPE X cl H0 C0 (.Subscript (.Name n np) b pos) (cGIx tab cb) :=
  (pe_ix ix_kdict (pe_glob (v := .ref p) hg hm rfl nd) hb (plainIx_of hs)).imp fun σ H Q ⟨σc, C, Qc, S, h, hq⟩ => ⟨σc, C, _, S, h, fun d C1 v H1 ⟨z, g, e1, l1, q⟩ rv R1 k1 => by
    subst e1
    cases rv
    obtain ⟨v, kd, rp⟩ := D.at_ z _ l1
    exact ⟨p, z, v, rfl, rfl, kd, hq _ _ _ _ q (rp _) R1 k1⟩⟩
/-- a in X, X a written dict -/
noncomputable def cGIn (tab : List (Str × GV)) (a : CTE) : CTE := fun σ C Q => a σ C fun d C1 => ∃ z, d = .str z ∧ Q (.bl (tab.lookup z).isSome) C1
theorem gin_imp {p : Addr} {tab : List (Str × GV)} (D : WDct X.K X.w p tab) (σ : L2.St) (H : Hp) (Q : VK) : tE X.K cl H0 C0 (cGIn tab ca) σ H Q → tOp (fun x y H Q => ∃ (z : Str) (r : Option Value), x = .str z ∧ y = .ref p ∧ PySem.W.nsIn X.K p z = some r ∧ Q (.bl r.isSome) H) (tE X.K cl H0 C0 ca) (tC (.ref p)) σ H Q := fun ⟨σc, C, Qc, S, h, hq⟩ => ⟨σc, C, _, S, h, fun d C1 v H1 ⟨z, e1, q⟩ rv R1 k1 => by
  subst e1
  cases rv
  cases l : tab.lookup z with
  | some g =>
    rw [l] at q
    obtain ⟨v, ⟨es, n, u, _, _, kd, _⟩, rp⟩ := D.at_ z _ l
    exact ⟨z, some u, rfl, rfl, kd, hq _ _ _ _ q (.bl _) R1 k1⟩
  | none =>
    rw [l] at q
    obtain ⟨es, n, _, _, kd⟩ := D.no z l
    exact ⟨z, none, rfl, rfl, kd, hq _ _ _ _ q (.bl _) R1 k1⟩⟩
theorem cpe_gin {p : Addr} {n : Str} {np : Pos} {pos : Pos} {tab : List (Str × GV)} (hg : Gl X n) (hm : X.mg n = some (.ref p)) (D : WDct X.K X.w p tab) (ha : CPE X cl H0 C0 a ca) (nd : (n == ("__debug__" : Str)) = false) :
    CPE X cl H0 C0 (.Compare a [.In] [.Name n np] pos) (cGIn tab ca) := by
  obtain ⟨es, m, kd⟩ := D.kd
  exact (pe_cmpR (op_in_kd kd) ha (pe_glob (v := .ref p) hg hm rfl nd) rfl).imp (gin_imp D)
theorem cpt_gin {p : Addr} {n : Str} {np : Pos} {pos : Pos} {tab : List (Str × GV)} (hg : Gl X n) (hm : X.mg n = some (.ref p)) (D : WDct X.K X.w p tab) (ha : CPE X cl H0 C0 a ca) (nd : (n == ("__debug__" : Str)) = false) :
    CPT X cl H0 C0 (.Compare a [.In] [.Name n np] pos) (cTst (cGIn tab ca)) := by
  obtain ⟨es, m, kd⟩ := D.kd
  exact (pt_cmpR (op_in_kd kd) ha (pe_glob (v := .ref p) hg hm rfl nd) rfl).imp fun σ H Q ⟨σc, C, Qc, S, h, hq⟩ => gin_imp D σ H _ ⟨σc, C, _, S, h, fun d C1 v H1 ⟨b, e, q⟩ rv R1 k1 => by
    subst e
    cases rv
    exact ⟨b, rfl, hq _ _ _ q R1 k1⟩⟩
end
/-- what the module tells of a key -/
noncomputable def GFact (K : PySem.W.Frag) (p : Addr) (z : Str) (g : GV) : Prop := ∃ u v, PySem.W.nsIn K p z = some (some u) ∧ RelV v u ∧ ∀ H, Rep K H g.d v
/-- the keys are among these -/
noncomputable def keysAre (ks : List Str) (es : List DictEntry) : Bool := es.all fun e => ks.any fun k => e.key.isStr k
theorem lookup_mem {tab : List (Str × GV)} {z : Str} {g : GV} (e : tab.lookup z = some g) : (z, g) ∈ tab := by
  induction tab with
  | nil => cases e
  | cons q r ih =>
    obtain ⟨k, j⟩ := q
    rw [List.lookup_cons] at e
    split at e
    · rename_i hz
      injection e with e
      rw [← e, eq_of_beq hz]
      exact List.mem_cons_self
    · exact List.mem_cons_of_mem _ (ih e)
theorem lookup_none {tab : List (Str × GV)} {z : Str} (e : tab.lookup z = none) : z ∉ tab.map (·.1) := by
  induction tab with
  | nil => exact fun h => nomatch h
  | cons q r ih =>
    obtain ⟨k, j⟩ := q
    rw [List.lookup_cons] at e
    split at e
    · cases e
    · rename_i hz
      intro h
      rcases List.mem_cons.mp h with h | h
      · rw [h] at hz; simp at hz
      · exact ih e h
theorem wdct_of {K : PySem.W.Frag} {w : World} {p : Addr} {tab : List (Str × GV)} {es : Array DictEntry} {m : Nat} (h1 : K.lookup p = some ⟨.type "dict", none, .dict es m, #[]⟩) (h2 : PySem.W.KeysLit w.params es.toList) (h3 : (p == sysModules) = false)
    (h5 : keysAre (tab.map (·.1)) es.toList = true) (h4 : ∀ q ∈ tab, GFact K p q.1 q.2) : WDct K w p tab ∧ ∃ es m, K.lookup p = some ⟨.type "dict", none, .dict es m, #[]⟩ := by
  refine ⟨⟨beq_eq_false_iff_ne.mp h3, ⟨es, m, h1, h2, h3⟩, fun z i e => ?_, fun z e => ⟨es, m, h1, h2, ?_⟩⟩, es, m, h1⟩
  · obtain ⟨u, v, k1, k2, k3⟩ := h4 _ (lookup_mem e)
    exact ⟨v, ⟨es, m, u, h1, h2, k1, k2⟩, k3⟩
  · have nz := lookup_none e
    have all := List.all_eq_true.mp h5
    have f1 : es.toList.find? (·.key.isStr z) = none := by
      rw [List.find?_eq_none]
      intro d hd hz
      obtain ⟨k, hk, hi⟩ := List.any_eq_true.mp (all d hd)
      obtain ⟨x, t, ek, _⟩ := h2.all d hd
      rw [ek] at hz hi
      have e1 : x = z := eq_of_beq hz
      have e2 : x = k := eq_of_beq hi
      rw [← e1, e2] at nz
      exact nz hk
    have f2 : es.toList.any (·.refKey) = false := by
      rw [List.any_eq_false]
      intro d hd
      obtain ⟨x, t, ek, _⟩ := h2.all d hd
      unfold DictEntry.refKey
      rw [ek]
      simp
    unfold PySem.W.nsIn
    rw [h1]
    dsimp only
    rw [f1, f2]
    rfl
end L3
set_option maxHeartbeats 1000000
namespace L3S
open PySem PySem.Spec PyProof.Rows
end L3S
namespace L3
open PySem PySem.Spec PyProof.Rows L2
end L3
namespace L3
open PySem PySem.Spec PyProof.Rows L2
theorem fold_nil : ∀ n : Nat, (List.replicate n (#[] : Array Nat)).foldl (· ++ ·) #[] = #[]
  | 0 => rfl
  | n + 1 => by rw [List.replicate_succ, List.foldl_cons]; exact fold_nil n
theorem fold_size (a : Array Nat) : ∀ (n : Nat) (acc : Array Nat), ((List.replicate n a).foldl (fun x y => x ++ y) acc).size = acc.size + n * a.size
  | 0, acc => by simp
  | n + 1, acc => by
    rw [List.replicate_succ, List.foldl_cons, fold_size a n, Array.size_append, Nat.succ_mul]; omega
section
variable {X : Cx} {cl : ClsT}
noncomputable def rRepS : R2 := fun x y H Q => ∃ (z : Str) (k : Int), x = .str z ∧ y = .int k ∧ 0 ≤ k ∧ k ≤ 10000 ∧ z.length ≤ 1000 ∧ Q (.str (repS z k.toNat)) H
theorem op_repS : OpR X (binaryOp .Mult) rRepS := by
  intro pins s σ H x y u v Q I rx ry ⟨z, k, ex, ey, k0, k1, hz, q⟩
  subst ex; subst ey
  obtain ⟨t, rfl⟩ := rx
  obtain ⟨t2, rfl⟩ := ry
  have hsl : 10000000 ≤ sizeLine := by decide
  refine P.mul_str ?_ (fun h1 h2 => ?_) (fun h1 h2 => ?_) ?_
  · have a : ¬ k < -(2 ^ 63 : Int) := by omega
    have b : ¬ k ≥ 2 ^ 63 := by omega
    rw [decide_eq_false a, decide_eq_false b]; rfl
  · have kp : 0 < k := by omega
    have hm : (z.length : Int) * k ≤ 1000 * 10000 := Int.mul_le_mul (by omega) k1 (by omega) (by omega)
    have : (z.length : Int) ≤ (2 ^ 63 - 1) / k := (Int.le_ediv_iff_mul_le kp).mpr (by omega)
    omega
  · have hm : z.length * k.toNat ≤ 1000 * 10000 := Nat.mul_le_mul hz (by omega)
    show decide (z.length * k.toNat > sizeLine) = false
    exact decide_eq_false (by omega)
  · have fin : ∀ (y : Str) (s' : Shared), y = repS z k.toNat → (∃ n, s' = { s with toks := n }) → ∀ tk, EP X pins σ Q (.str y tk) s' := by
      rintro y s' rfl ⟨n, rfl⟩ tk
      exact ⟨.str _, H, I.tok _, ⟨_, rfl⟩, q⟩
    by_cases h1 : k < 1
    · rw [if_pos h1]
      obtain rfl : k = 0 := by omega
      exact ⟨by decide, fin _ _ rfl ⟨_, rfl⟩ _⟩
    · rw [if_neg h1]
      by_cases h2 : (k == 1 || z.length == 0) = true
      · rw [if_pos h2]
        refine fin z s ?_ ⟨s.toks, rfl⟩ t
        rw [Bool.or_eq_true] at h2
        rcases h2 with h2 | h2
        · have e : k = 1 := by simpa using h2
          subst e
          show z = ⟨#[] ++ z.cps⟩
          rw [Array.empty_append]
        · have e : z.cps = #[] := by
            have : z.cps.size = 0 := by simpa [Str.length] using h2
            exact Array.eq_empty_of_size_eq_zero this
          show z = ⟨_⟩
          rw [e, fold_nil]
          cases z
          simp only at e
          rw [e]
      · rw [if_neg h2]
        refine ⟨?_, fin _ _ rfl ⟨_, rfl⟩ _⟩
        show (List.foldl (fun x1 x2 => x1 ++ x2) (#[] : Array Nat) (List.replicate k.toNat z.cps)).size ≤ sizeLine
        rw [fold_size]
        have hm : k.toNat * z.cps.size ≤ 10000 * 1000 := Nat.mul_le_mul (by omega) hz
        simp only [Array.size_empty]
        omega
end
end L3
namespace L3N
open PySem PySem.Spec PyProof.Rows PySem.SeqAt
open AutoSeq1 (wpAny_loadPart')
open MeetsSeq MeetsSeq2 MeetsSeq3
section
/-- the kinds of the other thing -/
inductive Kind1 (s : Shared) : Value → String → Prop where
  | non : Kind1 s .none "NoneType"
  | int (i : Int) (t : Tok) : Kind1 s (.int i t) "int"
  | str (z : Str) (t : Tok) : Kind1 s (.str z t) "str"
  | tup {a : Addr} {o : Obj} (h : s.heap.get? a = some o) (hc : o.cls = .type "tuple") : Kind1 s (.ref a) "tuple"
theorem Kind1.type {s : Shared} {v : Value} {T : String} (k : Kind1 s v T) : s.TypeIs v T := by
  cases k with
  | non => rfl
  | int i t => rfl
  | str z t => rfl
  | tup h hc => exact ⟨_, h, hc⟩
theorem Kind1.sub {s : Shared} {v : Value} {T : String} {K : PySem.W.Frag} {C : Addr} (k : Kind1 s v T) : PySem.W.subIn K (.type T) (.ref C) = some false := by
  have h : ∀ T ∈ ["NoneType", "int", "str", "tuple"], (fastBuiltinMro T).map (fun x => x.all fun v => match v with | .type _ => true | _ => false) = some true := by decide +kernel
  have g : ∀ T ∈ ["NoneType", "int", "str", "tuple"], PySem.W.subIn K (.type T) (.ref C) = some false := fun T hT => by
    have e := h T hT
    show (fastBuiltinMro T).map (·.contains (.ref C)) = some false
    cases hm : fastBuiltinMro T with
    | none => rw [hm] at e; cases e
    | some x =>
      rw [hm] at e
      simp only [Option.map_some, Option.some.injEq] at e ⊢
      rw [Bool.eq_false_iff]
      intro hc
      rw [List.contains_iff_mem] at hc
      have := List.all_eq_true.mp e _ hc
      cases this
  cases k <;> exact g _ (by decide)
end
end L3N
namespace L3N
open PySem PySem.Spec PyProof.Rows PySem.SeqAt
theorem Kind1.looks {prog : Program} {w : World} {s : Shared} {v : Value} {T : String} (k : Kind1 s v T) : PySem.W.Looks (model prog w) s.heap (typeOf v) (.type T) := by
  cases k with
  | non => exact PySem.W.Looks.of_pure rfl
  | int i t => exact PySem.W.Looks.of_pure rfl
  | str z t => exact PySem.W.Looks.of_pure rfl
  | tup h hc => exact fun A Q E s' hk hq => wpAny_typeOf ⟨_, hk _ _ h, hc⟩ hq
end L3N
namespace L3
open PySem L2 PySem.Spec PyProof.Rows
/-- a class that is none of the kinds of other things -/
structure OwnX (K : PySem.W.Frag) (Ca : Addr) : Prop where
  non : PySem.W.mroIn K Ca (.type "NoneType") = some false
  int : PySem.W.mroIn K Ca (.type "int") = some false
  str : PySem.W.mroIn K Ca (.type "str") = some false
  tup : PySem.W.mroIn K Ca (.type "tuple") = some false
/-- None, a number, a string, a tuple -/
noncomputable def plV (K : PySem.W.Frag) (H : Hp) (v : V) : Prop := v = .non ∨ (∃ i, v = .int i) ∨ (∃ z, v = .str z) ∨ ∃ a vs, v = .ref a ∧ SqT K H a vs
section
variable {X : Cx} {cl : ClsT} {H0 : Hp} {C0 : CH} {Ca fa : Addr} {fd : FuncData} {ps : List Str} {sp : Sp} {k : Nat} {g : List Src} {gV : List V → List V → List V}
theorem plV.kind {pins : List (Addr × Obj)} {σ : L2.St} {H : Hp} {s : Shared} {v : V} {u : Value} (I : Inv X pins σ H s) (h : plV X.K H v) (r : RelV v u) : ∃ T, L3N.Kind1 s u T := by
  rcases h with rfl | ⟨i, rfl⟩ | ⟨z, rfl⟩ | ⟨a, vs, rfl, h⟩
  · rw [show u = .none from r]; exact ⟨_, .non⟩
  · obtain ⟨t, rfl⟩ := r; exact ⟨_, .int i t⟩
  · obtain ⟨t, rfl⟩ := r; exact ⟨_, .str z t⟩
  · rw [show u = .ref a from r]
    obtain ⟨its, r1, ⟨o, ho, hc, hd⟩, hz⟩ := I.tuple h
    exact ⟨_, .tup ho hc⟩
end
end L3
namespace L3
open PySem L2 PySem.Spec PyProof.Rows
/-- the own == of a class, against its own and against other things -/
noncomputable abbrev OwnEX (K : PySem.W.Frag) (Ca f : Addr) : Prop := OwnE K Ca f ∧ OwnX K Ca
end L3
namespace L3
open PySem L2 PySem.Spec PyProof.Rows
end L3
set_option maxHeartbeats 1000000
namespace L3
open PySem PySem.Spec PyProof.Rows L2
section
variable {X : Cx} {cl : ClsT} {H0 : Hp} {C0 : CH} {pos : Pos} {e : Expr} {ca : CTE}
noncomputable def cFmt (a : CTE) : CTE := fun σ C Q => a σ C fun d C1 => match d with
  | .str y => y.length ≤ sizeLine ∧ Q (.str y) C1
  | .int i => i.natAbs.log2 < 1920 ∧ Q (.str (toString i)) C1
  | _ => False
theorem cpe_fmt (ha : CPE X cl H0 C0 e ca) : CPE X cl H0 C0 (.FormattedValue e (-1) none pos) (cFmt ca) :=
  (pe_fmt ha).imp fun σ H Q ⟨σc, C, Qc, S, h, hq⟩ => ⟨σc, C, _, S, h, fun d C1 v H1 h1 rv R1 k1 => by
    have hq1 := hq.from_ k1
    cases d with
    | str y => cases rv; exact .inl ⟨y, rfl, h1.1, hq1.now h1.2 (.str _) R1⟩
    | int i => cases rv; exact .inr ⟨i, rfl, h1.1, hq1.now h1.2 (.str _) R1⟩
    | _ => exact h1.elim⟩
/-- the texts one behind the other -/
noncomputable def cJs : List CTE → Str → Env3 → CH → (Str → CH → Prop) → Prop
  | [], acc, _, C, Q => Q acc C
  | t :: ts, acc, σ, C, Q => t σ C fun d C1 => ∃ y, d = .str y ∧ (acc ++ y).length ≤ sizeLine ∧ cJs ts (acc ++ y) σ C1 Q
noncomputable def cFst (ts : List CTE) : CTE := fun σ C Q => cJs ts Str.empty σ C fun z C1 => Q (.str z) C1
theorem tJs_of {K : PySem.W.Frag} : ∀ (ts : List CTE) (acc : Str) (σ : L2.St) (H : Hp) (σc : Env3) (C : CH) (Qc : Str → CH → Prop) (Q : Str → Hp → Prop), S3 K cl H0 C0 σ H σc C → cJs ts acc σc C Qc →
    (∀ z C' H', Qc z C' → Rel K cl H' C' → Keep H C H' C' → Q z H') → tJs (ts.map (tE K cl H0 C0)) acc σ H Q
  | [], acc, σ, H, σc, C, Qc, Q, S, h, hq => hq acc C H h S.r Keep.refl
  | t :: ts, acc, σ, H, σc, C, Qc, Q, S, h, hq => ⟨σc, C, _, S, h, fun d C1 v H1 ⟨y, e1, h1, h2⟩ rv R1 k1 => by
    subst e1
    cases rv
    exact ⟨y, rfl, h1, tJs_of ts _ σ H1 σc C1 Qc Q (S.step k1 R1) h2 fun z C' H' q R k => hq z C' H' q R (k1.trans k)⟩⟩
theorem cpe_fst {v1 v2 : Expr} {rest : List Expr} {ts : List CTE} (h : PJ X (v1 :: v2 :: rest) (ts.map (tE X.K cl H0 C0))) : CPE X cl H0 C0 (.JoinedStr (v1 :: v2 :: rest) pos) (cFst ts) :=
  (pe_joined h).imp fun σ H Q ⟨σc, C, Qc, S, h, hq⟩ => tJs_of ts Str.empty σ H σc C _ _ S h fun z C' H' q R k => hq _ _ _ _ q (.str _) R k
/-- int(a text) -/
noncomputable def oIntS : OL := fun xs C Q => ∃ a n, xs = [.str a] ∧ PySem.intText? a = some n ∧ a.length ≤ 640 ∧ Q (.int n) C
theorem lk_intS {K : PySem.W.Frag} : LkL K cl (fun xs H Q => ∃ a n, xs = [.str a] ∧ PySem.intText? a = some n ∧ a.length ≤ 640 ∧ Q (.int n) H) oIntS := fun H C ds vs Q Qc rs R ⟨a, n, h1, h2, h3, q⟩ hq => by
  subst h1
  obtain ⟨v, rfl, r⟩ := rs.one
  cases r
  exact ⟨a, n, rfl, h2, h3, hq.now q (.int _) R⟩
end
end L3
namespace L3
open PySem L2
/-- what kit says of several classes: of one of them -/
noncomputable def anyKit (kit : String ⊕ Nat → String ⊕ Nat → Option Bool) (t : String ⊕ Nat) : List (String ⊕ Nat) → Option Bool
  | [] => some false
  | u :: us => match kit t u with
    | some true => some true
    | some false => anyKit kit t us
    | none => none
/-- the classes of a tuple, each by its name -/
inductive ClsL (X : Cx) (cl : ClsT) : List Expr → List (String ⊕ Nat) → List V → List Value → Prop where
  | nil : ClsL X cl [] [] [] []
  | cons {z : Expr} {zs : List Expr} {u : String ⊕ Nat} {us : List (String ⊕ Nat)} {v : V} {vs : List V} {w : Value} {ws : List Value} : PE X z (tC v) → notStar z = true → tyVal cl u = some w → ClsV v w → ClsL X cl zs us vs ws → ClsL X cl (z :: zs) (u :: us) (v :: vs) (w :: ws)
section
variable {X : Cx} {cl : ClsT} {H0 : Hp} {C0 : CH} {pos : Pos}
theorem ClsL.pa {zs : List Expr} {us : List (String ⊕ Nat)} {vs : List V} {ws : List Value} (h : ClsL X cl zs us vs ws) : PA X zs fun σ H Q => Q vs H := by
  induction h with
  | nil => exact pa_nil.imp fun _ _ _ q => q
  | cons h1 h2 _ _ _ ih => exact (pa_cons h1 ih (star_of h2)).imp fun σ H Q q => q
theorem ClsL.maps {zs : List Expr} {us : List (String ⊕ Nat)} {vs : List V} {ws : List Value} (h : ClsL X cl zs us vs ws) : us.map (tyVal cl) = ws.map some := by
  induction h with
  | nil => rfl
  | cons _ _ h3 _ _ ih => rw [List.map_cons, List.map_cons, h3, ih]
theorem ClsL.paired {zs : List Expr} {us : List (String ⊕ Nat)} {vs : List V} {ws : List Value} (h : ClsL X cl zs us vs ws) : Paired ClsV vs ws := by
  induction h with
  | nil => exact .nil
  | cons _ _ _ h4 _ ih => exact .cons h4 ih
theorem ClsL.len {zs : List Expr} {us : List (String ⊕ Nat)} {vs : List V} {ws : List Value} (h : ClsL X cl zs us vs ws) : vs.length = zs.length := by
  induction h with
  | nil => rfl
  | cons _ _ _ _ _ ih => rw [List.length_cons, List.length_cons, ih]
end
end L3
namespace L3
open PySem L2 PySem.Spec PyProof.Rows LamX
/-- what is meant by calling a value -/
noncomputable abbrev SemA := D → CH → Kv → Kx → Prop
theorem Rel.extN {K : PySem.W.Frag} {cl : ClsT} {H H1 : Hp} {C : CH} (R : Rel K cl H C) (e : ExtN H H1) (t : Tabs (tabsOf cl) H1) : Rel K cl H1 C ∧ Keep H C H1 C := by
  have k : Keep H C H1 C := fun b o h n nt => ⟨e b o h nt, n⟩
  refine ⟨⟨fun a o ho => ?_, t⟩, k⟩
  have q := R a o ho
  cases o with
  | lst ds => obtain ⟨vs, h1, h2⟩ := q; exact ⟨vs, e _ _ h1 NT.lst, h2.keep R k⟩
  | dic ds => obtain ⟨vs, h1, h2⟩ := q; exact ⟨vs, e _ _ h1 NT.dK, h2.keep R k⟩
  | dtk ds => obtain ⟨vs, h1, h2⟩ := q; exact ⟨vs, e _ _ h1 NT.ext, h2.keep R k⟩
  | ins c ds => obtain ⟨Ca, dx, vs, h0, h1, h2⟩ := q; exact ⟨Ca, dx, vs, h0, e _ _ h1 NT.ins, h2.keep R k⟩
theorem Rel.noCode {K : PySem.W.Frag} {cl : ClsT} {H : Hp} {C : CH} (R : Rel K cl H C) {c : Addr} {q : Str} (h : H c = some (CodeO c q)) : C c = none := by
  cases e : C c with
  | none => rfl
  | some o =>
    obtain ⟨u, h1, _, h3⟩ := (R c o e).odd
    rw [h] at h1
    exact (h3 q (Option.some.inj h1).symm).elim
/-- work(), of the value in slot 0 -/
noncomputable def cAct (act : SemA) (i : Nat) (ex : Kxs) : CTE := fun σ C Q => ∃ d, σ[i]? = some (some d) ∧ act d C Q fun y C' => ex y σ C'
/-- in the context X the value in slot 0 may be called: by act -/
noncomputable def ActOk (X : Cx) (cl : ClsT) (act : SemA) (H1 : Hp) (C1 : CH) : Prop := ∀ (pn : List (Addr × Obj)) (xe : Value → Shared → Prop) (H0 : Hp) (C0 : CH) (ex : Kxs), Keep H1 C1 H0 C0 → Takes (X.tr pn xe) (WC X.K cl H0 C0 ex) →
  ∀ (a : Str) (p1 p2 : Pos), X.N[0]? = some a → Vis X.env.scope a → (a == ("__debug__" : Str)) = false → (a == ("__classdict__" : Str)) = false → CPE (X.tr pn xe) cl H0 C0 (.Call (.Name a p1) [] [] p2) (cAct act 0 ex)
/-- the lambda's reading, as what is meant by calling it -/
noncomputable def lamAct (ce : Kxs → CTE) (fa : Addr) (σ : Env3) : SemA := fun d C Q E => d = .ref fa ∧ ce (fun y _ C' => E y C') σ C Q
/-- g(lambda: e) -/
noncomputable def cLam (lam : SemA → SemF) (ce : Kxs → CTE) (ex : Kxs) : CTE := fun σ C Q => ∀ fa, C fa = none → lam (lamAct ce fa σ) [.ref fa] C Q fun y C' => ex y σ C'
/-- the lambda's body in its context -/
noncomputable def LamBody (X : Cx) (cl : ClsT) (m : Nat) (scope : Scope) (body : Expr) (ce : Kxs → CTE) : Prop := ∀ (A : Around) (outer : List Env) (s : Shared) (H : Hp) (E : XK) (f c' : Addr) (H0 : Hp) (C0 : CH) (ex : Kxs),
  Room m (A.deeper (lamEnv X scope s.heap.objs.size f c')) → A.guards = some [] → Takes (lamCx X A outer s H E scope f c') (WC X.K cl H0 C0 ex) → CPE (lamCx X A outer s H E scope f c') cl H0 C0 body (ce ex)
section
variable {X : Cx} {cl : ClsT} {pins : List (Addr × Obj)} {σ : L2.St} {H : Hp} {s : Shared}
theorem act_ok {CXg : CXT} {Eg : XK} {Ng : List Str} {qg : Str} {sg : Scope} {g f c' : Addr} {cdg pm ctv : Value} {params : Arguments} {body : Expr} {scope : Scope} {m : Nat} {ce : Kxs → CTE} {σc : Env3} {C : CH}
    (I : Inv X pins σ H s) (L : LamS X.env.scope scope) (hf : s.heap.get? f = some (PySem.W.kla_obj "<lambda>" (X.env.qual ++ "<lambda>") params body scope (cloFrom X.env.cells scope.names []) pm c' ctv)) (hfn : H f = none) (hfr : f ∉ frs X.stack)
    (hbind : bindArgs (PySem.W.kla_fn "<lambda>" (X.env.qual ++ "<lambda>") params body scope (cloFrom X.env.cells scope.names []) pm (.ref c') ctv) ⟨[], []⟩ = pure [])
    (hco : H c' = some (CodeO c' (X.env.qual ++ "<lambda>"))) (rs : RepS X.K H σc σ) (R : Rel X.K cl H C) (hgd : X.A.guards = some []) (hr : Room (m + 1) (X.A.deeper (envOfC qg sg s.heap.objs.size g cdg))) (hbody : LamBody X cl m scope body ce) :
    ActOk (cxOf CXg X.prog X.w X.K X.mg X.base Ng qg sg g cdg X.A X.stack s H Eg) cl (lamAct ce f σc) H C := by
  intro pn xe H0 C0 ex k0 tk a p1 p2 hN hv hd hcd
  refine ⟨fun pinsZ sZ σZ HZ Q IZ ⟨σZc, CZ, Qc, S, ⟨d, hs, ed, ht⟩, hq⟩ => ?_⟩
  subst ed
  obtain ⟨v, hs', rv⟩ := S.s.get hs
  cases rv
  have kZ : Keep H C HZ CZ := k0.trans S.f
  have hc : HZ c' = some (CodeO c' (X.env.qual ++ "<lambda>")) := (kZ c' _ hco (R.noCode hco) .ext).1
  refine wpAny_Call_Name_kw (thn ((pe_var (X := (cxOf CXg X.prog X.w X.K X.mg X.base Ng qg sg g cdg X.A X.stack s H Eg).tr pn xe) (pos := p1) (i := 0) hN hv hd hcd).run pinsZ sZ σZ HZ (fun v H1 => v = .ref f ∧ H1 = HZ) IZ ⟨.ref f, hs', rfl, rfl⟩) fun u s1 ⟨v, H1, I1, r1, q1⟩ => ?_)
  obtain ⟨ev, eH⟩ := q1
  subst ev
  rw [eH] at I1
  obtain rfl : u = Value.ref f := r1
  have of1 : s1.heap.get? f = some (PySem.W.kla_obj "<lambda>" (X.env.qual ++ "<lambda>") params body scope (cloFrom X.env.cells scope.names []) pm c' ctv) := I1.base.keep f _ hf hfn hfr (fun z => nomatch (show f ∈ ([] : List Addr) from z))
  refine PySem.W.callWith_F0 ⟨_, _, _, _, of1⟩ ?_
  have un : Un (frs X.stack) [] H HZ s.heap s1.heap := I1.base
  obtain ⟨⟨oc, vs, t, hoc, hdc, hvc⟩, _, _⟩ := I1.hok c' _ hc
  have rc : codeAny (model X.prog X.w) (X.A.deeper (envOfC qg sg s.heap.objs.size g cdg)) (.call (.ref f) ⟨[], []⟩) (CR (L2.CX X.prog X.w) (envOfC qg sg s.heap.objs.size g cdg :: X.stack) X.prog X.w HZ s1 Q (WE (WC X.K cl H0 C0 ex) σZ)) s1 := by
    refine PySem.W.kla_callFunE hr.depth of1 rfl L.co L.gen rfl ⟨c', oc, vs, t, rfl, hoc, hdc, hvc⟩ ?_
    rw [hbind]
    refine wpAny_pure (wpAny_newFunctionEnv (fun y hy => (L.own y hy).2) (fun y hy => absurd hy (by simp)) (fun h₁ hns hsb => ⟨I1.nolimit.fresh _ hsb, ?_⟩) L.kind)
    show codeAny _ _ (.expr body (lamEnv X scope s1.heap.objs.size f c')) _ _
    have kp : ∀ b o, s1.heap.get? b = some o → h₁.get? b = some o := fun b o e => hsb.extBut b o (Nat.ne_of_lt (Heap.lt_size e)) (Heap.get?_push_of_some _ e)
    have J : Inv (lamCx X (X.A.deeper (envOfC qg sg s.heap.objs.size g cdg)) (envOfC qg sg s.heap.objs.size g cdg :: X.stack) s1 HZ (WE (WC X.K cl H0 C0 ex) σZ) scope f c') [] σ HZ { s1 with heap := h₁, toks := s1.toks + ([] : List (Str × Value)).length } :=
      lam_start2 I L I1.env0 hr.hd un hns kp
    have tkL : Takes (lamCx X (X.A.deeper (envOfC qg sg s.heap.objs.size g cdg)) (envOfC qg sg s.heap.objs.size g cdg :: X.stack) s1 HZ (WE (WC X.K cl H0 C0 ex) σZ) scope f c') (WC X.K cl HZ CZ fun y _ C' => ex y σZc C') :=
      (takes_of (E := WE (WC X.K cl H0 C0 ex) σZ) rfl rfl rfl rfl).imp fun cls d' σ' H' ⟨y, σc', C', q, xr, S'⟩ => ⟨y, σZc, C', q, xr, ⟨S.s.keep S.r S'.f, S'.r, S.f.trans S'.f⟩⟩
    refine PySem.W.kla_codeExpr (wpAny_mono ((hbody _ _ s1 HZ _ f c' HZ CZ _ (hr.deeper _) hgd tkL).run [] _ _ HZ Q J ⟨σc, CZ, Qc, ⟨rs.keep R kZ, S.r, Keep.refl⟩, ht, hq⟩) (fun v s' hq => ?_) fun e s' hq => hq)
    obtain ⟨w', H', J', rv, q⟩ := hq
    exact ⟨w', H', J'.os, J'.bare, J'.base, J'.hok, rv, q⟩
  refine wpAny_call (codeAny_mono rc fun r s' hq => ?_)
  cases r with
  | error e => exact passAt tk σZ pinsZ HZ s1 e s' I1 hq
  | ok fl =>
    cases fl with
    | ret u => exact I1.after hq
    | next => exact False.elim hq
    | brk => exact False.elim hq
    | cont => exact False.elim hq
end
/-- what a def promises that calls what it is given -/
noncomputable def LamAt (P : Program) (w : World) (K : PySem.W.Frag) (mg : Str → Option Value) (base : Heap) (cl : ClsT) (m : Nat) (g : Addr) (lam : SemA → SemF) : Prop := ∃ (N : List Str) (qual : Str) (sg : Scope) (cdg : Value),
  ∀ (A : Around) (out : List Env) (s : Shared) (H : Hp) (C : CH) (f : Addr) (act : SemA) (Q : VK) (E : XK) (Qc : Kv) (Ec : Kx), Room (m + 2) A → A.guards = some [] → Env0 P w K mg base A out s H → Rel K cl H C →
    (Room (m + 1) (A.deeper (envOfC qual sg s.heap.objs.size g cdg)) → ActOk (cxOf (L2.CX P w) P w K mg base N qual sg g cdg A out s H E) cl act H C) →
    lam act [.ref f] C Qc Ec → EndE K cl H C Qc Q → (∀ x C' cls d H', Ec x C' → XRel K cl H' x cls d → Rel K cl H' C' → Keep H C H' C' → E cls d H') →
    codeAny (model P w) A (.call (.ref g) ⟨[.ref f], []⟩) (CR (L2.CX P w) out P w H s Q E) s
section
variable {X : Cx} {cl : ClsT} {H0 : Hp} {C0 : CH}
theorem cpe_lam {x : Str} {g : Addr} {m : Nat} {lam : SemA → SemF} {ce : Kxs → CTE} {ex : Kxs} {r : LamR} {params : Arguments} {body : Expr} {scope : Scope} {p lpos pos : Pos} (hg : Gl X x) (hm : X.mg x = some (.ref g)) (hk : PySem.W.keepIn X.K (.ref g) = true) (hG : LamAt X.prog X.w X.K X.mg X.base cl m g lam)
    (TB : TabB X.base X.mg r.c r.P) (hcode : X.env.code = .ref r.c) (hq : X.env.qual ++ "<lambda>" = r.q) (hr : r ∈ cl.tb) (hu : ∀ p ∈ cl.tb, p.P = r.P → p.q = r.q) (room : Room (m + 2) X.A) (hgd : X.A.guards = some []) (L : LamS X.env.scope scope) (hdef : defaultsOf params X.env = ([], []))
    (hbind : ∀ (q : Str) (cl : List (Str × Addr)) (pm cv ctv : Value), bindArgs (PySem.W.kla_fn "<lambda>" q params body scope cl pm cv ctv) ⟨[], []⟩ = pure []) (tk : Takes X (WC X.K cl H0 C0 ex)) (hbody : LamBody X cl m scope body ce) (hdb : (x == ("__debug__" : Str)) = false) :
    CPE X cl H0 C0 (.Call (.Name x p) [.Lambda params body scope lpos] [] pos) (cLam lam ce ex) := by
  refine ⟨fun pins s σ H Q I ⟨σc, C, Qc, S, h, hE⟩ => ?_⟩
  refine wpAny_Call_Name_kw (ld_glob I hg hm ?_ hdb)
  refine PySem.W.callWith_K (h₀ := X.base) I.ok.mod.kin hk ?_ (by rfl) (by rfl)
  show wpAny _ _ (spliced ((false, eval (.Lambda params body scope lpos) X.env) :: backTo pos (starEach [] X.env))) _ _ s
  refine Calls.spliced_cons (lam_make2 (T := tabsOf cl) I TB hcode (List.mem_map.mpr ⟨r, hr, by rw [hq]⟩) (fun q hq' e => ?_) S.r.tab hdef (L.has I.ok) fun f c' pm' ctv H1 s' I1 eN T1 hf hfn hfr hco => ?_)
  · obtain ⟨r', h1, h2⟩ := List.mem_map.mp hq'
    subst h2
    rw [hq]
    exact hu r' h1 e
  refine Calls.spliced_nil ⟨I1.kIn, ?_⟩
  obtain ⟨R1, k1⟩ := S.r.extN eN T1
  obtain ⟨N, qual, sg, cdg, G⟩ := hG
  have S1 := S.step k1 R1
  have rc := G X.A X.stack s' H1 C f (lamAct ce f σc) Q (WE (WC X.K cl H0 C0 ex) σ) Qc (fun y C' => ex y σc C') room hgd I1.env0 R1 (fun hr => act_ok I1 L hf hfn hfr (hbind _ _ _ _ _) hco S1.s R1 hgd hr hbody) (h f (free_of R1 hfn)) (hE.from_ k1)
    fun x C' cls d H' hx xr R' k' => ⟨x, σc, C', hx, xr, S1.step k' R'⟩
  refine wpAny_call (codeAny_mono rc fun r s2 hq => ?_)
  cases r with
  | error e => exact passAt tk σ pins H1 s' e s2 I1 hq
  | ok fl =>
    cases fl with
    | ret u => exact I1.after hq
    | next => exact False.elim hq
    | brk => exact False.elim hq
    | cont => exact False.elim hq
end
end L3
namespace L3
open PySem L2 PySem.Spec PyProof.Rows PySem.SeqAt
end L3
namespace L3
open PySem L2
/-- built-in functions -/
inductive BI where
  | len
  | int
  | tuple
  | all
  | any
  | maxL
  | min2
  | abs
  | repr
  | str
  | intS
  deriving DecidableEq
/-- methods of built-ins -/
inductive MI where
  | append
  | extend
  | pop
  | popAt
  | join
  deriving DecidableEq
inductive OpB where
  | add
  | sub
  | mul
  | fdiv
  | mod
  | pow
  deriving DecidableEq
inductive OpC where
  | eq
  | ne
  | lt
  | le
  | gt
  | ge
  | is
  | isNot
  | inD
  | inF
  | inS
  | notInS
  deriving DecidableEq
/-- what is walked -/
inductive IK where
  | seq
  | txt
  | rg1
  deriving DecidableEq
inductive CE where
  | var (i : Nat)
  | cst (d : D)
  | glb (x : Str) (d : D)
  | bin (o : OpB) (a b : CE)
  | neg (a : CE)
  | cmp (o : OpC) (a b : CE)
  | chain (o o' : OpC) (a b c : CE)
  | and (a b : CE)
  | or (a b : CE)
  | not (a : CE)
  | ite (t a b : CE)
  | tup (es : List CE)
  | lst (es : List CE)
  | dic (ks vs : List CE)
  | nev
  | idx (a b : CE)
  | slice (a : CE) (lo hi : Option CE)
  | call (f np n m : Nat) (g : List Src) (es ks : List CE)
  | isi (u : String ⊕ Nat) (a : CE)
  | fmt (a : CE)
  | fst (es : List CE)
  | bi (b : BI) (es : List CE)
  | mt (m : MI) (o : CE) (es : List CE)
  | getW (n : Str) (tab : List (Str × GV)) (a b : CE)
  | gix (n : Str) (tab : List (Str × GV)) (b : CE)
  | gin (n : Str) (tab : List (Str × GV)) (a : CE)
  | lc (e : CE) (T : CT) (vs : List Nat) (k : IK) (it : List CE) (ifs : List CE)
  | lam (g : Nat) (e : CE)
/-- what is said of a caught exception (isx: isinstance of it) -/
inductive IE where
  | leaf (e : CE) | isx (ans : List (Nat × Bool)) (u : String ⊕ Nat) (j : Nat) | isxT (ans : List (Nat × Bool)) (us : List (String ⊕ Nat)) (j : Nat) | lst3 (a b c : IE) | or3 (a b c : IE) | and2 (a b : IE) | and3 (a b c : IE) | or2 (a b : IE) | not (a : IE) | ite (t a b : IE)
/-- the one statement of a try that calls what was given: i = work(), i = [work()], work() -/
inductive LF where
  | asg (i : Nat) | lst (i : Nat) | drop
/-- a statement behind a caught exception -/
inductive IS where
  | nev | skip (t : CE) | asg (i : Nat) (e : IE) | ifR (t : IE) (e : CE) | ret (e : IE)
inductive CS where
  | pass
  | cont
  | expr (e : CE)
  | ret (e : CE)
  | ifS (t : CE) (a b : List CS)
  | asg (T : CT) (e : CE)
  | par3 (i j l : Nat) (a b c : CE)
  | setI (o i e : CE)
  | never
  | augN (i : Nat) (o : OpB) (e : CE)
  | forS (T : CT) (k : IK) (it : List CE) (body : List CS)
  | whileS (t : CE) (body : List CS)
  | raise (c : Nat)
  | tryS (cs : List Nat) (body suite : List CS)
  | tryK (cs : List Nat) (i : Nat) (body suite rest : List CS) (t : CE) (ie : IE)
  | tryL (cs : List Nat) (i : Nat) (lf : LF) (suite rest : List CS) (is : List IS)
/-- what a body leans on -/
structure G3 where
  call : Nat → SemF
  make : Nat → SemF
  kit : String ⊕ Nat → String ⊕ Nat → Option Bool
  lam : Nat → SemA → SemF
  act : SemA
  call2 : Nat → SemF
  make2 : Nat → SemF
noncomputable def lam0 : Nat → SemA → SemF := fun _ _ _ _ _ _ => False
noncomputable def act0 : SemA := fun _ _ _ _ => False
noncomputable def sem0 : Nat → SemF := fun _ _ _ _ _ => False
/-- what a lambda's body leans on: two calls deeper -/
noncomputable def G3.dn (G : G3) : G3 := ⟨G.call2, G.make2, G.kit, lam0, act0, sem0, sem0⟩
noncomputable def oAddA : O2 := fun x y C Q => match x, y with
  | .int i, .int j => Q (.int (i + j)) C
  | .str i, .str j => i.length + j.length ≤ sizeLine ∧ Q (.str (i ++ j)) C
  | .tup xs, .tup ys => xs.length + ys.length ≤ sizeLine ∧ Q (.tup (xs ++ ys)) C
  | .ref a, .ref b => ∃ xs ys, C a = some (.lst xs) ∧ C b = some (.lst ys) ∧ xs.length + ys.length ≤ sizeLine ∧ ∀ p, C p = none → Q (.ref p) (cup C p (.lst (xs ++ ys)))
  | _, _ => False
noncomputable def oI2 (P : Int → Int → Prop) (g : Int → Int → D) : O2 := fun x y C Q => match x, y with
  | .int i, .int j => P i j ∧ Q (g i j) C
  | _, _ => False
noncomputable def semB : OpB → O2
  | .add => oAddA
  | .sub => oI2 (fun _ _ => True) fun i j => .int (i - j)
  | .mul => oMulA
  | .fdiv => oI2 CDivN fun i j => .int (i.fdiv j)
  | .mod => oI2 (fun _ j => j ≠ 0) fun i j => .int (i.fmod j)
  | .pow => oI2 CPow fun i j => .int (i ^ j.toNat)
noncomputable def semC : OpC → O2
  | .eq => oEqN id
  | .ne => oEqN not
  | .lt => oI2 (fun _ _ => True) fun i j => .bl (decide (i < j))
  | .le => oI2 (fun _ _ => True) fun i j => .bl (decide (i ≤ j))
  | .gt => oI2 (fun _ _ => True) fun i j => .bl (decide (j < i))
  | .ge => oI2 (fun _ _ => True) fun i j => .bl (decide (j ≤ i))
  | .is => oIs id
  | .isNot => oIs not
  | .inD => oInD id
  | .inF => oInF id
  | .inS => oInS id
  | .notInS => oInS not
noncomputable def oNeg : O1 := fun d C Q => match d with
  | .int i => Q (.int (-i)) C
  | _ => False
noncomputable def semBI : BI → OL
  | .len => oLen
  | .int => oInt
  | .tuple => oTuple
  | .all => oAll fun bs => .bl (bs.all id)
  | .any => oAll fun bs => .bl (bs.any id)
  | .maxL => oMaxL
  | .min2 => oMin2
  | .abs => oAbs
  | .repr => oRepr
  | .str => oStrI
  | .intS => oIntS
noncomputable def semMI : MI → OM
  | .append => oAppend
  | .extend => oExtendA
  | .pop => oPop
  | .popAt => oPopAt
  | .join => oJoin
noncomputable def tyMI : MI → D → CH → Prop
  | .join => isStr
  | _ => isLst
noncomputable def semIK : IK → List CTE → CTI
  | .seq, [a] => iSeq a
  | .txt, [a] => iTxt a
  | .rg1, [a] => iRg1 (cCons a cNil)
  | _, _ => fun _ _ _ => False
noncomputable def cChain (o o' : O2) (a b c : CTE) : CTE := fun σ C Q => a σ C fun d C1 => b σ C1 fun e C2 => o d e C2 fun z C3 => ∃ k, z = .bl k ∧ if k = true then c σ C3 fun f C4 => o' e f C4 Q else Q (.bl false) C3
/-- the pairs of a display, from the left -/
noncomputable def cPrs (ks vs : List CTE) : Env3 → CH → (List (D × D) → CH → Prop) → Prop := fun σ C Q => match ks, vs with
  | k :: ks, v :: vs => k σ C fun d C1 => v σ C1 fun e C2 => cPrs ks vs σ C2 fun ps C3 => Q ((d, e) :: ps) C3
  | _, _ => Q [] C
noncomputable def dicOf (ps : List (Key × D)) : List (Key × D) := ps.foldl (fun acc p => putC acc p.1 p.2) []
noncomputable def cDic (ks vs : List CTE) : CTE := fun σ C Q => cPrs ks vs σ C fun ps C1 => ∃ kvs : List (Key × D), kvs.map (fun p => p.2) = ps.map (·.2) ∧ ps.map (fun p => keyD p.1) = kvs.map (fun p => some p.1) ∧ kvs.length ≤ 15 ∧ ∀ p, C1 p = none → Q (.ref p) (cup C1 p (.dic (dicOf kvs)))
/-- what is never reached -/
noncomputable def cNev : CTE := fun _ _ _ => False
mutual
noncomputable def rdE (G : G3) (ex : Kxs) : CE → CTE
  | .var i => cVar i
  | .cst d => cC d
  | .glb _ d => cC d
  | .bin o a b => cBin (semB o) (rdE G ex a) (rdE G ex b)
  | .neg a => cUn oNeg (rdE G ex a)
  | .cmp o a b => cBin (semC o) (rdE G ex a) (rdE G ex b)
  | .chain o o' a b c => cChain (semC o) (semC o') (rdE G ex a) (rdE G ex b) (rdE G ex c)
  | .and a b => cAndV (rdE G ex a) (rdE G ex b)
  | .or a b => cOrV (rdE G ex a) (rdE G ex b)
  | .not a => cNotV (rdE G ex a)
  | .ite t a b => cIf (rdT G ex t) (rdE G ex a) (rdE G ex b)
  | .tup es => cList oTup (rdA G ex es)
  | .lst es => cList oLst (rdA G ex es)
  | .dic ks vs => cDic (rdLs G ex ks) (rdLs G ex vs)
  | .idx a b => cBin oIxA (rdE G ex a) (rdE G ex b)
  | .nev => cNev
  | .slice a lo hi => cSl (rdE G ex a) (rdO G ex lo) (rdO G ex hi)
  | .call f np n m g es ks => cCall (G.call f) np n m g ex (rdA G ex es) (rdA G ex ks)
  | .isi u a => cUn (oIsi G.kit u) (rdE G ex a)
  | .fmt a => cFmt (rdE G ex a)
  | .fst es => cFst (rdLs G ex es)
  | .bi b es => cList (semBI b) (rdA G ex es)
  | .mt m o es => cMt (tyMI m) (semMI m) (rdE G ex o) (rdA G ex es)
  | .getW _ tab a b => cGetW tab (rdE G ex a) (rdE G ex b)
  | .gix _ tab b => cGIx tab (rdE G ex b)
  | .gin _ tab a => cGIn tab (rdE G ex a)
  | .lc e T vs k it ifs => cLc (semIK k (rdLs G ex it)) T vs (rdIfs G (fun _ _ _ => False) ifs) (rdE G (fun _ _ _ => False) e)
  | .lam g e => cLam (G.lam g) (fun ex' => rdE G.dn ex' e) ex
noncomputable def rdT (G : G3) (ex : Kxs) : CE → CTT
  | .and a b => cAnd (rdT G ex a) (rdT G ex b)
  | .or a b => cOr (rdT G ex a) (rdT G ex b)
  | .not a => cNot (rdT G ex a)
  | .var i => cTst (cVar i)
  | .cst d => cTst (cC d)
  | .glb _ d => cTst (cC d)
  | .bin o a b => cTst (cBin (semB o) (rdE G ex a) (rdE G ex b))
  | .neg a => cTst (cUn oNeg (rdE G ex a))
  | .cmp o a b => cTst (cBin (semC o) (rdE G ex a) (rdE G ex b))
  | .chain o o' a b c => cTst (cChain (semC o) (semC o') (rdE G ex a) (rdE G ex b) (rdE G ex c))
  | .ite t a b => cTst (cIf (rdT G ex t) (rdE G ex a) (rdE G ex b))
  | .tup es => cTst (cList oTup (rdA G ex es))
  | .lst es => cTst (cList oLst (rdA G ex es))
  | .dic ks vs => cTst (cDic (rdLs G ex ks) (rdLs G ex vs))
  | .idx a b => cTst (cBin oIxA (rdE G ex a) (rdE G ex b))
  | .nev => cTst cNev
  | .slice a lo hi => cTst (cSl (rdE G ex a) (rdO G ex lo) (rdO G ex hi))
  | .call f np n m g es ks => cTst (cCall (G.call f) np n m g ex (rdA G ex es) (rdA G ex ks))
  | .isi u a => cTst (cUn (oIsi G.kit u) (rdE G ex a))
  | .fmt a => cTst (cFmt (rdE G ex a))
  | .fst es => cTst (cFst (rdLs G ex es))
  | .bi b es => cTst (cList (semBI b) (rdA G ex es))
  | .mt m o es => cTst (cMt (tyMI m) (semMI m) (rdE G ex o) (rdA G ex es))
  | .getW _ tab a b => cTst (cGetW tab (rdE G ex a) (rdE G ex b))
  | .gix _ tab b => cTst (cGIx tab (rdE G ex b))
  | .gin _ tab a => cTst (cGIn tab (rdE G ex a))
  | .lc e T vs k it ifs => cTst (cLc (semIK k (rdLs G ex it)) T vs (rdIfs G (fun _ _ _ => False) ifs) (rdE G (fun _ _ _ => False) e))
  | .lam g e => cTst (cLam (G.lam g) (fun ex' => rdE G.dn ex' e) ex)
noncomputable def rdA (G : G3) (ex : Kxs) : List CE → CTA
  | [] => cNil
  | e :: es => cCons (rdE G ex e) (rdA G ex es)
noncomputable def rdLs (G : G3) (ex : Kxs) : List CE → List CTE
  | [] => []
  | e :: es => rdE G ex e :: rdLs G ex es
noncomputable def rdIfs (G : G3) (ex : Kxs) : List CE → CTT
  | [] => cYes
  | [e] => rdT G ex e
  | _ => fun _ _ _ => False
noncomputable def rdO (G : G3) (ex : Kxs) : Option CE → CTO
  | none => cNoPart
  | some e => cPart (rdE G ex e)
end
/-- x += e of numbers and texts -/
noncomputable def oAug : OpB → O2
  | .add => fun x y C Q => match x, y with
    | .int i, .int j => Q (.int (i + j)) C
    | .str i, .str j => i.length + j.length ≤ sizeLine ∧ Q (.str (i ++ j)) C
    | _, _ => False
  | .sub => oI2 (fun _ _ => True) fun i j => .int (i - j)
  | _ => fun _ _ _ _ => False
mutual
noncomputable def rdI (G : G3) (ex : Kxs) (a cc : Nat) : IE → CTE
  | .leaf e => rdE G ex e
  | .isx ans _ j => cIsx ans j a cc
  | .isxT ans _ j => cIsx ans j a cc
  | .lst3 x y z => cList oLst (cCons (rdI G ex a cc x) (cCons (rdI G ex a cc y) (cCons (rdI G ex a cc z) cNil)))
  | .or3 x y z => cOrV (rdI G ex a cc x) (cOrV (rdI G ex a cc y) (rdI G ex a cc z))
  | .and2 x y => cAndV (rdI G ex a cc x) (rdI G ex a cc y)
  | .and3 x y z => cAndV (rdI G ex a cc x) (cAndV (rdI G ex a cc y) (rdI G ex a cc z))
  | .or2 x y => cOrV (rdI G ex a cc x) (rdI G ex a cc y)
  | .not x => cNotV (rdI G ex a cc x)
  | .ite t x y => cIf (rdIT G ex a cc t) (rdI G ex a cc x) (rdI G ex a cc y)
noncomputable def rdIT (G : G3) (ex : Kxs) (a cc : Nat) : IE → CTT
  | .leaf e => rdT G ex e
  | .isx ans _ j => cTst (cIsx ans j a cc)
  | .isxT ans _ j => cTst (cIsx ans j a cc)
  | .lst3 x y z => cTst (cList oLst (cCons (rdI G ex a cc x) (cCons (rdI G ex a cc y) (cCons (rdI G ex a cc z) cNil))))
  | .or3 x y z => cOr (rdIT G ex a cc x) (cOr (rdIT G ex a cc y) (rdIT G ex a cc z))
  | .and2 x y => cAnd (rdIT G ex a cc x) (rdIT G ex a cc y)
  | .and3 x y z => cAnd (rdIT G ex a cc x) (cAnd (rdIT G ex a cc y) (rdIT G ex a cc z))
  | .or2 x y => cOr (rdIT G ex a cc x) (rdIT G ex a cc y)
  | .not x => cNot (rdIT G ex a cc x)
  | .ite t x y => cTst (cIf (rdIT G ex a cc t) (rdI G ex a cc x) (rdI G ex a cc y))
end
/-- behind a try that has caught: if n is None: .. is passed by, then return ie -/
noncomputable def sCaught (G : G3) (ex : Kxs) (cs : List Nat) (t : CE) (ie : IE) (a cc : Nat) : CTS := fun D σ C => if decide (cc ∈ cs) = true then sSeq (sIf (rdT G ex t) (fun _ _ _ => False) sNext) (sRet (rdI G ex a cc ie)) D σ C else False
noncomputable def rdIS (G : G3) (ex : Kxs) (a cc : Nat) : List IS → CTS
  | [] => sNext
  | .nev :: _ => fun _ _ _ => False
  | .skip t :: r => sSeq (sIf (rdT G ex t) (fun _ _ _ => False) sNext) (rdIS G ex a cc r)
  | .asg i e :: r => sSeq (sAsg (rdI G ex a cc e) (hT (.nm i))) (rdIS G ex a cc r)
  | .ifR t e :: r => sSeq (sIf (rdIT G ex a cc t) (sSeq (sRet (rdE G ex e)) sNext) sNext) (rdIS G ex a cc r)
  | .ret e :: _ => sRet (rdI G ex a cc e)
noncomputable def sCaughtL (G : G3) (ex : Kxs) (cs : List Nat) (is : List IS) (a cc : Nat) : CTS := fun D σ C => if decide (cc ∈ cs) = true then rdIS G ex a cc is D σ C else False
noncomputable def sLF (G : G3) (ex : Kxs) : LF → CTS
  | .asg i => sAsg (cAct G.act 0 ex) (hT (.nm i))
  | .lst i => sAsg (cList oLst (cCons (cAct G.act 0 ex) cNil)) (hT (.nm i))
  | .drop => sDrop (cAct G.act 0 ex)
noncomputable def sAug (i : Nat) (o : O2) (e : CTE) : CTS := fun D σ C => ∃ d, σ[i]? = some (some d) ∧ e σ C fun z C1 => o d z C1 fun w C2 => D.nx (σ.set i (some w)) C2
mutual
noncomputable def rdS (G : G3) (ex : Kxs) : CS → CTS
  | .pass => sNext
  | .cont => sCont
  | .expr e => sDrop (rdE G ex e)
  | .ret e => sRet (rdE G ex e)
  | .ifS t a b => sIf (rdT G ex t) (rdSs G ex a) (rdSs G ex b)
  | .asg T e => sAsg (rdE G ex e) (hT T)
  | .par3 i j l a b c => sPar3 i j l (rdA G ex [a, b, c])
  | .setI o i e => sSet (rdE G ex e) (rdE G ex o) (rdE G ex i) (fun x y z C Q => oSetL x y z C Q ∨ oSetD x y z C Q)
  | .never => sNever
  | .augN i o e => sAug i (oAug o) (rdE G ex e)
  | .forS T k it body => sFor (semIK k (rdLs G ex it)) (hT T) (rdSs G ex body)
  | .whileS t body => sWhile (rdT G ex t) (rdSs G ex body)
  | .raise c => sRaise c ex
  | .tryS cs body suite => sTry (fun c => decide (c ∈ cs)) (fun ex' => rdSs G ex' body) (rdSs G (fun _ _ _ => False) suite) ex
  | .tryK cs i body suite rest t ie => fun D σ C => rdSs G (fun y σ1 C1 => if decide (y.cls ∈ cs) = true then y.fs = [] ∧ ∀ a, C1 a = none → rdSs G (fun _ _ _ => False) suite { nx := fun σ2 C2 => sCaught G ex cs t ie a y.cls D (σ2.set i none) C2, rt := fun _ _ => False } (σ1.set i (some (.ref a))) C1 else ex y σ1 C1) body { D with nx := fun σ2 C2 => rdSs G ex rest D σ2 C2 } σ C
  | .tryL cs i lf suite rest is => fun D σ C => sLF G (fun y σ1 C1 => if decide (y.cls ∈ cs) = true then y.fs = [] ∧ ∀ a, C1 a = none → rdSs G (fun _ _ _ => False) suite { nx := fun σ2 C2 => sCaughtL G ex cs is a y.cls D (σ2.set i none) C2, rt := fun _ _ => False } (σ1.set i (some (.ref a))) C1 else ex y σ1 C1) lf { D with nx := fun σ2 C2 => rdSs G ex rest D σ2 C2 } σ C
noncomputable def rdSs (G : G3) (ex : Kxs) : List CS → CTS
  | [] => sNext
  | s :: r => sSeq (rdS G ex s) (rdSs G ex r)
end
end L3
namespace L3
open PySem L2
mutual
noncomputable def beqD : D → D → Bool
  | .non, .non => true
  | .bl a, .bl b => a == b
  | .int a, .int b => a == b
  | .str a, .str b => decide (a = b)
  | .ty a, .ty b => decide (a = b)
  | .tup a, .tup b => beqDs a b
  | .rls a, .rls b => beqDs a b
  | .ref a, .ref b => Nat.beq a b
  | _, _ => false
noncomputable def beqDs : List D → List D → Bool
  | [], [] => true
  | a :: as, b :: bs => beqD a b && beqDs as bs
  | _, _ => false
end
mutual
theorem beqD_eq : ∀ {a b : D}, beqD a b = true → a = b
  | .non, b, h => by cases b <;> first | rfl | (simp [beqD] at h)
  | .bl a, b, h => by cases b <;> simp [beqD] at h; rw [h]
  | .int a, b, h => by cases b <;> simp [beqD] at h; rw [h]
  | .str a, b, h => by cases b <;> simp [beqD] at h; rw [h]
  | .ty a, b, h => by cases b <;> simp [beqD] at h; rw [h]
  | .tup a, b, h => by
    cases b with
    | tup b => simp only [beqD] at h; rw [beqDs_eq h]
    | _ => simp [beqD] at h
  | .rls a, b, h => by
    cases b with
    | rls b => simp only [beqD] at h; rw [beqDs_eq h]
    | _ => simp [beqD] at h
  | .ref a, b, h => by
    cases b with
    | ref b => simp only [beqD] at h; rw [Nat.eq_of_beq_eq_true h]
    | _ => simp [beqD] at h
theorem beqDs_eq : ∀ {a b : List D}, beqDs a b = true → a = b
  | [], b, h => by cases b <;> first | rfl | (simp [beqDs] at h)
  | a :: as, b, h => by
    cases b with
    | nil => simp [beqDs] at h
    | cons b bs =>
      simp only [beqDs, Bool.and_eq_true] at h
      rw [beqD_eq h.1, beqDs_eq h.2]
end
noncomputable def beqS : Src → Src → Bool
  | .pos a, .pos b => a == b
  | .kw a, .kw b => a == b
  | .dfl a, .dfl b => beqD a b
  | _, _ => false
theorem beqS_eq {a b : Src} (h : beqS a b = true) : a = b := by
  cases a <;> cases b <;> first | (simp [beqS] at h; rw [h]) | (simp only [beqS] at h; rw [beqD_eq h]) | (simp [beqS] at h)
noncomputable def beqSs : List Src → List Src → Bool
  | [], [] => true
  | a :: as, b :: bs => beqS a b && beqSs as bs
  | _, _ => false
theorem beqSs_eq : ∀ {a b : List Src}, beqSs a b = true → a = b
  | [], [], _ => rfl
  | [], _ :: _, h => by simp [beqSs] at h
  | _ :: _, [], h => by simp [beqSs] at h
  | a :: as, b :: bs, h => by
    simp only [beqSs, Bool.and_eq_true] at h
    rw [beqS_eq h.1, beqSs_eq h.2]
/-- a call's form: its keywords, how many, how they are bound -/
noncomputable def shC (kn : Option (List Str)) (k : Nat) (o : List Str → Option (Nat × List Src)) (np : Nat) (g : List Src) : Bool := match kn with
  | some kn => decide (kn.length = k) && (match o kn with | some (np', g') => decide (np' = np) && beqSs g g' | none => false)
  | none => false
structure Tab where
  fn : Str → Option Nat
  cls : Str → Option Nat
  glb : Str → Option D
  blt : Str → Bool
  shape : Nat → Nat → List Str → Option (Nat × List Src)
  init : Nat → Option Nat
  own : Nat → Option Nat
  ownL : Nat → Option Nat
  ownB : Nat → Option Nat
  mth : Nat → Str → Option Nat
  attr : Nat → Str → Bool
  exc : Nat → Bool
  xcl : Nat → Bool
  xkit : Nat → String ⊕ Nat → Option Bool
  tch : Str → List Nat → Bool
  gdc : Str → Option (List (Str × GV))
  lamD : Str → Option Nat
  lamS : List (Str × NameKind) → Option Nat
  lamM : Nat → Option Nat
noncomputable def nmV (N : List Str) (sc : Scope) (x : Str) (i : Nat) : Bool := decide (N[i]? = some x) && (match sc.names.lookup x with | some .local => true | some .cell => true | some .free => true | _ => false) && !(x == ("__debug__" : Str)) && !(x == ("__classdict__" : Str))
noncomputable def glN (sc : Scope) (x : Str) : Bool := decide (sc.names.lookup x = some .globalImplicit) && !(x == ("__debug__" : Str))
noncomputable def nmL (N : List Str) (sc : Scope) (x : Str) (i : Nat) : Bool := decide (N[i]? = some x) && (match sc.names.lookup x with | some .local => true | some .cell => true | _ => false)
noncomputable def biN : BI → Str
  | .len => "len" | .int => "int" | .tuple => "tuple" | .all => "all" | .any => "any" | .maxL => "max" | .min2 => "min" | .abs => "abs" | .repr => "repr" | .str => "str" | .intS => "int"
noncomputable def biA : BI → Nat → Bool
  | .min2, n => n == 2
  | _, n => n == 1
noncomputable def miN : MI → Str
  | .append => "append" | .extend => "extend" | .pop => "pop" | .popAt => "pop" | .join => "join"
noncomputable def miA : MI → Nat → Bool
  | .pop, n => n == 0
  | _, n => n == 1
noncomputable def opN : OpB → Operator
  | .add => .Add | .sub => .Sub | .mul => .Mult | .fdiv => .FloorDiv | .mod => .Mod | .pow => .Pow
noncomputable def opCN : OpC → CmpOp
  | .eq => .Eq | .ne => .NotEq | .lt => .Lt | .le => .LtE | .gt => .Gt | .ge => .GtE | .is => .Is | .isNot => .IsNot
  | .inD => .In | .inF => .In | .inS => .In | .notInS => .NotIn
noncomputable def notSet : Expr → Bool
  | .Set .. => false
  | _ => true
noncomputable def notComp : Expr → Bool
  | .ListComp .. => false
  | .SetComp .. => false
  | .DictComp .. => false
  | _ => true
noncomputable def tgC (N : List Str) (sc : Scope) (tg : Expr) : CT → Bool
  | .nm i => match tg with | .Name x _ => nmL N sc x i | _ => false
  | .tp is => match tg with
    | .Tuple xs _ _ => decide (xs.length = is.length) && (xs.zip is).all fun p => match p.1 with | .Name x _ => nmL N sc x p.2 | _ => false
    | _ => false
noncomputable def tgNs : Expr → List Str
  | .Name x _ => [x]
  | .Tuple xs _ _ => xs.filterMap fun e => match e with | .Name x _ => some x | _ => none
  | _ => []
noncomputable def chkBool (f : Expr → CE → Bool) (op : BoolOp) : List Expr → CE → Bool
  | [e], c => f e c
  | e :: r, c => match op, c with
    | .And, .and a b => f e a && chkBool f op r b
    | .Or, .or a b => f e a && chkBool f op r b
    | _, _ => false
  | [], _ => false
noncomputable def chkAs (f : Expr → CE → Bool) : List Expr → List CE → Bool
  | [], [] => true
  | e :: es, c :: cs => notStar e && f e c && chkAs f es cs
  | _, _ => false
noncomputable def chkKs (f : Expr → CE → Bool) : List Keyword → List CE → Bool
  | [], [] => true
  | ⟨_, e, _⟩ :: es, c :: cs => f e c && chkKs f es cs
  | _, _ => false
noncomputable def chkDs (f : Expr → CE → Bool) : List (Option Expr) → List Expr → List CE → List CE → Bool
  | [], [], [], [] => true
  | some k :: ks, v :: vs, c :: cs, d :: ds => f k c && f v d && chkDs f ks vs cs ds
  | _, _, _, _ => false
noncomputable def chkO (f : Expr → CE → Bool) : Option Expr → Option CE → Bool
  | none, none => true
  | some e, some c => f e c
  | _, _ => false
noncomputable def chkIfs (f : Expr → CE → Bool) : List Expr → List CE → Bool
  | [], [] => true
  | [e], [c] => f e c
  | _, _ => false
noncomputable def isTup : Expr → Bool
  | .Tuple .. => true
  | _ => false
noncomputable def chkIt (T : Tab) (sc : Scope) (f : Expr → CE → Bool) (tg iter : Expr) : IK → List CE → Bool
  | .seq, [a] => f iter a && notSet iter
  | .txt, [a] => f iter a && notSet iter
  | .rg1, [a] => match iter with | .Call (.Name x _) [e] [] _ => decide (x = "range") && glN sc x && T.blt x && notStar e && f e a | _ => false
  | _, _ => false
noncomputable def isiC (T : Tab) (sc : Scope) (u : String ⊕ Nat) (c : Expr) : Bool := match c with
  | .Name x _ => glN sc x && notStar c && (match u with
    | .inl n => T.blt x && decide (bootBuiltins x = some (.type n)) && !decide (x = ("__name__" : Str))
    | .inr k => decide (T.cls x = some k))
  | _ => false
noncomputable def isiCs (T : Tab) (sc : Scope) : List (String ⊕ Nat) → List Expr → Bool
  | [], [] => true
  | u :: us, z :: zs => isiC T sc u z && isiCs T sc us zs
  | _, _ => false
noncomputable def noArgs : Arguments → Bool
  | ⟨[], [], none, [], [], none, []⟩ => true
  | _ => false
variable (T : Tab) (N : List Str)
mutual
noncomputable def chkE : Nat → Scope → Expr → CE → Bool
  | 0, _, _, _ => false
  | n + 1, sc, e, c => match c with
    | .var i => match e with | .Name x _ => nmV N sc x i | _ => false
    | .cst d => match e with
      | .Constant k _ _ => match k, d with
        | .none, .non => true
        | .bool a, .bl b => a == b
        | .int a, .int b => a == b
        | .str a, .str b => decide (a = b)
        | _, _ => false
      | _ => false
    | .glb x d => match e with | .Name y _ => decide (x = y) && glN sc y && (match T.glb y with | some d' => beqD d d' | none => false) | _ => false
    | .bin o a b => match e with | .BinOp x op y _ => decide (op = opN o) && chkE n sc x a && chkE n sc y b | _ => false
    | .neg a => match e with | .UnaryOp .USub x _ => chkE n sc x a | _ => false
    | .cmp o a b => match e with | .Compare x [op] [y] _ => decide (op = opCN o) && notSet y && chkE n sc x a && chkE n sc y b | _ => false
    | .chain o o' a b c => match e with | .Compare x [op, op'] [y, z] _ => decide (op = opCN o) && decide (op' = opCN o') && notSet z && chkE n sc x a && chkE n sc y b && chkE n sc z c | _ => false
    | .and _ _ => match e with | .BoolOp .And es _ => chkBool (chkE n sc) .And es c | _ => false
    | .or _ _ => match e with | .BoolOp .Or es _ => chkBool (chkE n sc) .Or es c | _ => false
    | .not a => match e with | .UnaryOp .Not x _ => chkE n sc x a | _ => false
    | .ite t a b => match e with | .IfExp z x y _ => chkT n sc z t && chkE n sc x a && chkE n sc y b | _ => false
    | .tup es => match e with | .Tuple xs _ _ => chkAs (chkE n sc) xs es | _ => false
    | .lst es => match e with | .List xs _ => chkAs (chkE n sc) xs es | _ => false
    | .dic ks vs => match e with | .Dict xs ys _ => chkDs (chkE n sc) xs ys ks vs && !xs.isEmpty && decide (xs.length ≤ 15) && decide (xs.length = ys.length) | _ => false
    | .idx a b => match e with | .Subscript x y _ => chkE n sc x a && chkE n sc y b && notSlice y | _ => false
    | .nev => notComp e
    | .slice a lo hi => match e with | .Subscript x (.Slice l h none _) _ => chkE n sc x a && chkO (chkE n sc) l lo && chkO (chkE n sc) h hi | _ => false
    | .call f np m k g es ks => match e with
      | .Call (.Name x _) xs kws _ => glN sc x && decide (T.fn x = some f) && shC (kwNames kws) k (T.shape f m) np g && chkAs (chkE n sc) xs es && chkKs (chkE n sc) kws ks
      | _ => false
    | .isi u a => match e with | .Call (.Name x _) [y, z] [] _ => decide (x = ("isinstance" : Str)) && glN sc x && T.blt x && chkE n sc y a && notStar y && isiC T sc u z | _ => false
    | .fmt a => match e with | .FormattedValue x c none _ => decide (c = -1) && chkE n sc x a | _ => false
    | .fst es => match e with | .JoinedStr (x :: y :: xs) _ => chkAs (chkE n sc) (x :: y :: xs) es | _ => false
    | .bi b es => match e with | .Call (.Name x _) xs [] _ => decide (x = biN b) && glN sc x && T.blt x && biA b xs.length && chkAs (chkE n sc) xs es | _ => false
    | .mt m o es => match e with | .Call (.Attribute x a ap) xs [] cp => decide (a = miN m) && miA m xs.length && chkE n sc x o && chkAs (chkE n sc) xs es && noSuper x && (ap.endLine == cp.line) | _ => false
    | .gix x tab b => match e with | .Subscript (.Name y _) z _ => decide (x = y) && glN sc y && decide (T.gdc y = some tab) && notSlice z && chkE n sc z b | _ => false
    | .gin x tab a => match e with | .Compare z [.In] [.Name y _] _ => decide (x = y) && glN sc y && decide (T.gdc y = some tab) && chkE n sc z a | _ => false
    | .getW x tab a b => match e with | .Call (.Attribute (.Name y _) g ap) [e1, e2] [] cp => decide (x = y) && decide (g = ("get" : Str)) && glN sc y && decide (T.gdc y = some tab) && (ap.endLine == cp.line) && notStar e1 && notStar e2 && chkE n sc e1 a && chkE n sc e2 b | _ => false
    | .lam g c => match e with
      | .Call (.Name x _) [.Lambda params body scope _] [] _ => glN sc x && decide (T.lamD x = some g) && (T.lamS sc.names).isSome && LamX.lamSB sc scope && noArgs params && decide (T.lamS scope.names = none) && chkE n scope body c
      | _ => false
    | .lc c T' vs k it ifs => match e with
      | .ListComp elt [⟨tg, iter, ifs', asy⟩] scope _ => decide (asy = 0) && blkC N sc scope ((tgNs tg).zip T'.slots) && decide (vs = T'.slots) && decide ((tgNs tg).length = T'.slots.length) && tgC N scope tg T' && chkIt T sc (chkE n sc) tg iter k it && chkIfs (chkT n (relS scope sc)) ifs' ifs && chkE n (relS scope sc) elt c && notSet iter && decide (T.lamS (relS scope sc).names = none)
      | _ => false
noncomputable def chkT : Nat → Scope → Expr → CE → Bool
  | 0, _, _, _ => false
  | n + 1, sc, e, c => match c with
    | .and _ _ => match e with | .BoolOp .And es _ => chkBool (chkT n sc) .And es c | _ => false
    | .or _ _ => match e with | .BoolOp .Or es _ => chkBool (chkT n sc) .Or es c | _ => false
    | .not a => match e with | .UnaryOp .Not x _ => chkT n sc x a | _ => false
    | .cmp o a b => match e with | .Compare x [op] [y] _ => decide (op = opCN o) && notSet y && chkE n sc x a && chkE n sc y b | _ => false
    | .chain o o' a b c => match e with | .Compare x [op, op'] [y, z] _ => decide (op = opCN o) && decide (op' = opCN o') && notSet z && chkE n sc x a && chkE n sc y b && chkE n sc z c | _ => false
    | .gin x tab a => match e with | .Compare z [.In] [.Name y _] _ => decide (x = y) && glN sc y && decide (T.gdc y = some tab) && chkE n sc z a | _ => false
    | c => plainTest e && chkE n sc e c
end
noncomputable def chkSs (f : Stmt → CS → Bool) : List Stmt → List CS → Bool
  | [], [] => true
  | s :: r, c :: cs => f s c && chkSs f r cs
  | _, _ => false
noncomputable def chkSuite (N : List Str) (sc : Scope) : Stmt → CS → Bool
  | .Assign [.Name x _] e _, .asg (.nm i) (.var j) => (match e with | .Name y _ => nmV N sc y j | _ => false) && decide (N[i]? = some x) && decide (sc.names.lookup x = some .local)
  | .Assign [.Name x _] e _, .asg (.nm i) (.cst d) => (match e, d with
      | .Constant .none _ _, .non => true
      | .Constant (.bool a) _ _, .bl b => a == b
      | .Constant (.str a) _ _, .str b => decide (a = b)
      | _, _ => false) && decide (N[i]? = some x) && decide (sc.names.lookup x = some .local)
  | .Return (some e) _, .ret (.cst d) => (match e, d with
      | .Constant .none _ _, .non => true
      | .Constant (.bool a) _ _, .bl b => a == b
      | .Constant (.str a) _ _, .str b => decide (a = b)
      | _, _ => false)
  | .Pass _, .pass => true
  | .Continue _, .cont => true
  | _, _ => false
noncomputable def chkS : Nat → Scope → Stmt → CS → Bool
  | 0, _, _, _ => false
  | n + 1, sc, s, c => match c with
    | .pass => match s with | .Pass _ => true | _ => false
    | .cont => match s with | .Continue _ => true | _ => false
    | .expr c => match s with | .Expr e _ => chkE T N n sc e c && notComp e | _ => false
    | .ret c => match s with | .Return (some e) _ => chkE T N n sc e c | _ => false
    | .ifS t a b => match s with | .If e x y _ => chkT T N n sc e t && chkSs (chkS n sc) x a && chkSs (chkS n sc) y b | _ => false
    | .asg (.nm i) c => match s with
      | .Assign [.Name x xp] e p => nmL N sc x i && chkE T N n sc e c && (notComp e || (match e with
        | .ListComp _ [_] scope cp => (match sc.names.lookup x with | some .local => (xp.line == cp.line) && !(scope.names.any fun (n, k) => n == x && (k == .local || k == .cell)) | _ => true)
        | _ => false))
      | _ => false
    | .asg (.tp is) c => match s with
      | .Assign [.Tuple xs a b] e _ => tgC N sc (.Tuple xs a b) (.tp is) && chkE T N n sc e c && notComp e && (match e with | .Tuple vs _ _ => decide (4 ≤ xs.length) || xs.any (fun z => match z with | .Name y _ => !decide (sc.names.lookup y = some .local) | _ => false) || vs.all (foldedForSure 8) | _ => true)
      | _ => false
    | .par3 i j l a b c => match s with
      | .Assign [.Tuple [.Name x xp, .Name y yp, .Name z zp] _ _] (.Tuple [e, e', e2] _ _) _ => decide (N[i]? = some x) && decide (N[j]? = some y) && decide (N[l]? = some z) && decide (i ≠ j) && decide (i ≠ l) && decide (j ≠ l) && decide (sc.names.lookup x = some .local) && decide (sc.names.lookup y = some .local) && decide (sc.names.lookup z = some .local) && chkE T N n sc e a && chkE T N n sc e' b && chkE T N n sc e2 c && notStar e && notStar e' && notStar e2 && (xp.line == yp.line) && (xp.line == zp.line) && !(foldedForSure 8 e && (foldedForSure 8 e' && foldedForSure 8 e2)) && !(constantsAlone 8 e && (constantsAlone 8 e' && constantsAlone 8 e2)) && decide (x ≠ y) && decide (x ≠ z) && decide (y ≠ z)
      | _ => false
    | .setI o i c => match s with | .Assign [.Subscript x y _] e _ => chkE T N n sc x o && chkE T N n sc y i && chkE T N n sc e c && notSlice y | _ => false
    | .never => true
    | .augN i o c => match s with | .AugAssign (.Name x _) op e _ => nmL N sc x i && decide (op = opN o) && (decide (o = .add) || decide (o = .sub)) && chkE T N n sc e c | _ => false
    | .forS T' k it body => match s with | .For tg iter b [] _ => tgC N sc tg T' && chkIt T sc (chkE T N n sc) tg iter k it && notSet iter && chkSs (chkS n sc) b body | _ => false
    | .whileS t body => match s with | .While e b [] _ => chkT T N n sc e t && chkSs (chkS n sc) b body | _ => false
    | .raise c => match s with | .Raise (some (.Call (.Name x _) [.Constant (.str _) _ _] [] _)) none _ => glN sc x && decide (T.cls x = some c) && T.exc c | _ => false
    | .tryS cs body suite => match s with
      | .Try b [.ExceptHandler (some (.Name x _)) none (s0 :: su) _] [] [] _ => glN sc x && T.tch x cs && chkSs (chkS n sc) b body && chkSs (chkSuite N sc) (s0 :: su) suite
      | _ => false
    | .tryK _ _ _ _ _ _ _ => false
    | .tryL _ _ _ _ _ _ => false
section
variable (T : Tab) (N : List Str)
/-- isinstance(name j, u) -/
noncomputable def chkIsx (sc : Scope) (e : Expr) (ans : List (Nat × Bool)) (u : String ⊕ Nat) (j : Nat) : Bool := match e with
  | .Call (.Name x _) [.Name m p, z] [] _ => (ans.all fun q => decide (T.xkit q.1 u = some q.2)) && decide (x = ("isinstance" : Str)) && glN sc x && T.blt x && nmV N sc m j && isiC T sc u z
  | _ => false
noncomputable def chkIsxT (sc : Scope) (e : Expr) (ans : List (Nat × Bool)) (us : List (String ⊕ Nat)) (j : Nat) : Bool := match e with
  | .Call (.Name x _) [.Name m p, .Tuple zs _ _] [] _ => (ans.all fun q => decide (anyKit (fun t u => match t with | .inr c => T.xkit c u | _ => none) (.inr q.1) us = some q.2)) && decide (x = ("isinstance" : Str)) && glN sc x && T.blt x && nmV N sc m j && isiCs T sc us zs && !us.isEmpty && decide (zs.length ≤ 30)
  | _ => false
noncomputable def chkIT (fuel : Nat) (sc : Scope) : IE → Expr → Bool
  | .leaf c, e => chkT T N fuel sc e c
  | .isx ans u j, e => chkIsx T N sc e ans u j
  | .isxT ans us j, e => chkIsxT T N sc e ans us j
  | .and2 a b, e => (match e with | .BoolOp .And [x, y] _ => chkIT fuel sc a x && chkIT fuel sc b y | _ => false)
  | .and3 a b c, e => (match e with | .BoolOp .And [x, y, z] _ => chkIT fuel sc a x && (chkIT fuel sc b y && chkIT fuel sc c z) | _ => false)
  | .or2 a b, e => (match e with | .BoolOp .Or [x, y] _ => chkIT fuel sc a x && chkIT fuel sc b y | _ => false)
  | .not a, e => (match e with | .UnaryOp .Not x _ => chkIT fuel sc a x | _ => false)
  | .or3 a b c, e => (match e with | .BoolOp .Or [x, y, z] _ => chkIT fuel sc a x && (chkIT fuel sc b y && chkIT fuel sc c z) | _ => false)
  | .lst3 _ _ _, _ => false
  | .ite _ _ _, _ => false
noncomputable def chkI (fuel : Nat) (sc : Scope) : IE → Expr → Bool
  | .leaf c, e => chkE T N fuel sc e c
  | .isx ans u j, e => chkIsx T N sc e ans u j
  | .isxT ans us j, e => chkIsxT T N sc e ans us j
  | .and2 a b, e => (match e with | .BoolOp .And [x, y] _ => chkI fuel sc a x && chkI fuel sc b y | _ => false)
  | .and3 a b c, e => (match e with | .BoolOp .And [x, y, z] _ => chkI fuel sc a x && (chkI fuel sc b y && chkI fuel sc c z) | _ => false)
  | .or2 a b, e => (match e with | .BoolOp .Or [x, y] _ => chkI fuel sc a x && chkI fuel sc b y | _ => false)
  | .not a, e => (match e with | .UnaryOp .Not x _ => chkI fuel sc a x | _ => false)
  | .or3 a b c, e => (match e with | .BoolOp .Or [x, y, z] _ => chkI fuel sc a x && (chkI fuel sc b y && chkI fuel sc c z) | _ => false)
  | .lst3 a b c, e => (match e with | .List [x, y, z] _ => notStar x && notStar y && notStar z && (chkI fuel sc a x && (chkI fuel sc b y && chkI fuel sc c z)) | _ => false)
  | .ite t a b, e => (match e with | .IfExp z x y _ => chkIT T N fuel sc t z && (chkI fuel sc a x && chkI fuel sc b y) | _ => false)
noncomputable def chkIS (fuel : Nat) (sc : Scope) : List IS → List Stmt → Bool
  | [.nev], _ => true
  | .skip t :: r, .If e _ [] _ :: ss => chkT T N fuel sc e t && chkIS fuel sc r ss
  | .asg i c :: r, .Assign [.Name x _] e _ :: ss => nmL N sc x i && chkI T N fuel sc c e && notComp e && chkIS fuel sc r ss
  | .ifR t c :: r, .If e [.Return (some e2) _] [] _ :: ss => chkIT T N fuel sc t e && chkE T N fuel sc e2 c && chkIS fuel sc r ss
  | [.ret c], [.Return (some e) _] => chkI T N fuel sc c e
  | _, _ => false
/-- work() of the value in slot 0 -/
noncomputable def chkAct (sc : Scope) : Expr → Bool
  | .Call (.Name a _) [] [] _ => nmV N sc a 0
  | _ => false
noncomputable def chkLF (sc : Scope) : LF → List Stmt → Bool
  | .asg i, [.Assign [.Name x _] e _] => nmL N sc x i && chkAct N sc e
  | .lst i, [.Assign [.Name x _] (.List [e] _) _] => nmL N sc x i && chkAct N sc e
  | .drop, [.Expr e _] => chkAct N sc e
  | _, _ => false
/-- a try whose exception is held by what stands behind it -/
noncomputable def chkK (fuel : Nat) (sc : Scope) (s : Stmt) (r : List Stmt) : CS → Bool
  | .tryK cs i body suite rest t ie => (match s with
      | .Try b [.ExceptHandler (some (.Name x _)) (some y) (s0 :: su) _] [] [] _ => glN sc x && T.tch x cs && cs.all T.xcl && decide (N[i]? = some y) && decide (sc.names.lookup y = some .local) && chkSs (chkS T N fuel sc) b body && chkSs (chkSuite N sc) (s0 :: su) suite
      | _ => false) && chkSs (chkS T N fuel sc) r rest && (match r with
      | [.If e _ [] _, .Return (some e2) _] => chkT T N fuel sc e t && chkI T N fuel sc ie e2
      | _ => false)
  | .tryL cs i lf suite rest is => (match s with
      | .Try b [.ExceptHandler (some (.Name x _)) (some y) (s0 :: su) _] [] [] _ => glN sc x && T.tch x cs && cs.all T.xcl && decide (N[i]? = some y) && decide (sc.names.lookup y = some .local) && chkLF N sc lf b && chkSs (chkSuite N sc) (s0 :: su) suite
      | _ => false) && chkSs (chkS T N fuel sc) r rest && chkIS T N fuel sc is r
  | _ => false
noncomputable def isK : CS → Bool
  | .tryK _ _ _ _ _ _ _ => true
  | .tryL _ _ _ _ _ _ => true
  | _ => false
/-- a def's statements -/
noncomputable def chkTop (fuel : Nat) (sc : Scope) : List Stmt → List CS → Bool
  | [], [] => true
  | s :: r, c :: cs => if isK c = true then cs.isEmpty && chkK T N fuel sc s r c else chkS T N fuel sc s c && chkTop fuel sc r cs
  | _, _ => false
end
end L3
namespace L3
open PySem L2
/-- a def (or method) at a, numbered f -/
noncomputable def FnAt (P : Program) (w : World) (K : PySem.W.Frag) (mg : Str → Option Value) (base : Heap) (cl : ClsT) (T : Tab) (sem : SemF) (k f : Nat) (a : Addr) : Prop :=
  ∃ fd ps np, FnOkG P w K mg base (L2.CX P w) k a fd ps (spC K cl np sem) ∧ ∀ m ks np' g, T.shape f m ks = some (np', g) → np' = np ∧ BindsC K fd ps m ks g
structure FactsB (T : Tab) (P : Program) (w : World) (K : PySem.W.Frag) (mg : Str → Option Value) (base : Heap) (cl : ClsT) (G : G3) (n : Nat) : Prop where
  lv : 10 ≤ n
  clP : cl.P = P
  clw : cl.w = w
  fn : ∀ x f, T.fn x = some f → ∃ a, mg x = some (.ref a) ∧ PySem.W.keepIn K (.ref a) = true ∧ FnAt P w K mg base cl T (G.call f) n f a
  cls : ∀ x c, T.cls x = some c → ∃ Ca, cl c = some Ca ∧ mg x = some (.ref Ca)
  init : ∀ c f, T.init c = some f → ∃ Ca a, cl c = some Ca ∧ Mk K Ca a ∧ ∃ fd ps np, ((∀ ds C Q E, ¬ G.make f ds C Q E) ∨ ∃ k, FnOkG P w K mg base (L2.CX P w) k a fd ps (spC K cl np (G.make f)) ∧ k + 1 ≤ n) ∧ ∀ m ks np' g, T.shape f m ks = some (np', g) → np' = np ∧ BindsC K fd ps m ks g
  own : ∀ c f, T.own c = some f → ∃ Ca a, cl c = some Ca ∧ OwnEX K Ca a ∧ ∃ fd ps np k, FnOkG P w K mg base (L2.CX P w) k a fd ps (spC K cl np (G.make f)) ∧ k + 1 ≤ n ∧ ∀ m ks np' g, T.shape f m ks = some (np', g) → np' = np ∧ BindsC K fd ps m ks g
  ownL : ∀ c f, T.ownL c = some f → ∃ Ca a, cl c = some Ca ∧ OwnL K Ca a ∧ ∃ fd ps np k, FnOkG P w K mg base (L2.CX P w) k a fd ps (spC K cl np (G.make f)) ∧ k + 1 ≤ n ∧ ∀ m ks np' g, T.shape f m ks = some (np', g) → np' = np ∧ BindsC K fd ps m ks g
  ownB : ∀ c f, T.ownB c = some f → ∃ Ca a, cl c = some Ca ∧ OwnB K Ca a ∧ FnAt P w K mg base cl T (G.call f) n f a
  xcl : ∀ c Ca, T.xcl c = true → cl c = some Ca → ExcC K Ca
  xkit : ∀ c u b Ca, T.xkit c u = some b → cl c = some Ca → ∃ vu, tyVal cl u = some vu ∧ PySem.W.kitOne K (.ref Ca) vu = some b
  mth : ∀ c m f, T.mth c m = some f → ∃ Ca a, cl c = some Ca ∧ Cls K Ca ∧ Meth K Ca m a ∧ FnAt P w K mg base cl T (G.call f) n f a
  glb : ∀ x d, T.glb x = some d → ∃ u v, mg x = some u ∧ RelV v u ∧ ∀ H, Rep K H d v
  blt : ∀ x, T.blt x = true → mg x = none
  attr : ∀ c f Ca, T.attr c f = true → cl c = some Ca → Cls K Ca ∧ NoAttr K Ca f
  kit : KitOk K cl G.kit
  kitc : ∀ c u b Ca, G.kit (.inr c) u = some b → cl c = some Ca → ClsOk K Ca
  exc : ∀ c Ca, T.exc c = true → cl c = some Ca → PySem.W.excIn K Ca [.type "ValueError", .type "Exception", .type "BaseException", .type "object"] "ValueError.__new__" = true ∧ PySem.W.keepIn K (.ref Ca) = true ∧ PySem.W.subIn K (.ref Ca) (.type "BaseException") = some true ∧ PySem.W.typeIn K (.ref Ca) = some (.type "type")
  tch : ∀ x cs, T.tch x cs = true → ∃ c, (mg x = some c ∨ (mg x = none ∧ bootBuiltins x = some c ∧ x ≠ "__name__")) ∧ SubOk K cl c fun i => decide (i ∈ cs)
  gdc : ∀ x tab, T.gdc x = some tab → ∃ p, mg x = some (.ref p) ∧ WDct K w p tab ∧ ∃ es m, K.lookup p = some ⟨.type "dict", none, .dict es m, #[]⟩
  lamS : ∀ l j, T.lamS l = some j → ∃ r, cl.tb[j]? = some r ∧ r.names = l
  lamI : ∀ (j : Nat) (r : LamR), cl.tb[j]? = some r → T.lamS r.names ≠ none
  lamU : ∀ r ∈ cl.tb, ∀ p ∈ cl.tb, p.P = r.P → p.q = r.q
/-- the same, and the defs that call what they are given -/
structure Facts (T : Tab) (P : Program) (w : World) (K : PySem.W.Frag) (mg : Str → Option Value) (base : Heap) (cl : ClsT) (G : G3) (n : Nat) : Prop extends FactsB T P w K mg base cl G n where
  lam : (∀ g act ds C Q E, ¬ G.lam g act ds C Q E) ∨ ∃ m, n = m + 2 ∧ FactsB T P w K mg base cl G.dn m ∧ ∀ x g, T.lamD x = some g → ∃ a, mg x = some (.ref a) ∧ PySem.W.keepIn K (.ref a) = true ∧ LamAt P w K mg base cl m a (G.lam g)
theorem FactsB.low {T : Tab} {P : Program} {w : World} {K : PySem.W.Frag} {mg : Str → Option Value} {base : Heap} {cl : ClsT} {G : G3} {n : Nat} (F : FactsB T P w K mg base cl G.dn n) : Facts T P w K mg base cl G.dn n := ⟨F, .inl fun _ _ _ _ _ _ z => z⟩
section
variable {N : List Str} {sc : Scope} {x : Str} {i : Nat}
theorem nmV_ok (h : nmV N sc x i = true) : N[i]? = some x ∧ Vis sc x ∧ (x == ("__debug__" : Str)) = false ∧ (x == ("__classdict__" : Str)) = false := by
  unfold nmV at h
  simp only [Bool.and_eq_true, decide_eq_true_eq, Bool.not_eq_true'] at h
  obtain ⟨⟨⟨h1, h2⟩, h3⟩, h4⟩ := h
  refine ⟨h1, ?_, h3, h4⟩
  unfold Vis
  split at h2 <;> first | (cases h2; done) | simp_all
theorem nmL_ok (h : nmL N sc x i = true) : N[i]? = some x ∧ Loc sc x := by
  unfold nmL at h
  simp only [Bool.and_eq_true, decide_eq_true_eq] at h
  obtain ⟨h1, h2⟩ := h
  refine ⟨h1, ?_⟩
  unfold L2.Loc
  split at h2 <;> first | (cases h2; done) | simp_all
theorem glN_ok {X : Cx} (e : X.env.scope = sc) (h : glN sc x = true) : Gl X x ∧ (x == ("__debug__" : Str)) = false := by
  unfold glN at h
  simp only [Bool.and_eq_true, decide_eq_true_eq, Bool.not_eq_true'] at h
  refine ⟨?_, h.2⟩
  show X.env.scope.names.lookup x = _
  rw [e]; exact h.1
theorem notSet_fold {e : Expr} {env : Env} (h : notSet e = true) : ∀ x, foldedSetIterable e env x = pure x := fun x => by
  cases e <;> first | rfl | cases h
theorem notSet_mark {e : Expr} {op : CmpOp} (h : notSet e = true) : behindInMarks op e = false := by
  cases e <;> first | rfl | cases h
theorem plain_of {e : Expr} {env : Env} (h : plainTest e = true) : ∀ whole, isTrue e env whole = (do let v ← whole; standAt e.pos; holding [v] (truthy v)) := fun whole => by
  cases e with
  | UnaryOp op a p => cases op <;> first | rfl | cases h
  | _ => first | rfl | cases h
theorem swap_none {e : Expr} {t : Option Expr} {l : Nat} {env : Env} (h : notComp e = true) : swapsWith e t l env = pure false := by
  cases e <;> first | rfl | cases h
end
section
variable {T : Tab} {P : Program} {w : World} {K : PySem.W.Frag} {mg : Str → Option Value} {base : Heap} {cl : ClsT} {G : G3} {n : Nat} {N : List Str}
theorem takes_bot {X : Cx} {H0 : Hp} {C0 : CH} : Takes X (WC K cl H0 C0 fun _ _ _ => False) := fun u s' ⟨_, _, _, _, _, _, _, _, _, _, _, _, _, _, _, _, _, _, _, z, _⟩ => z.elim
/-- the statement of what the checker is worth -/
noncomputable def SndE (P : Program) (w : World) (K : PySem.W.Frag) (mg : Str → Option Value) (base : Heap) (cl : ClsT) (G : G3) (n : Nat) (N : List Str) (sc : Scope) (e : Expr) (c : CE) : Prop :=
  ∀ top X H0 C0 ex, XOk P w K mg base cl.tb n N sc top X → Takes X (WC K cl H0 C0 ex) → CPE X cl H0 C0 e (rdE G ex c)
noncomputable def SndT (P : Program) (w : World) (K : PySem.W.Frag) (mg : Str → Option Value) (base : Heap) (cl : ClsT) (G : G3) (n : Nat) (N : List Str) (sc : Scope) (e : Expr) (c : CE) : Prop :=
  ∀ top X H0 C0 ex, XOk P w K mg base cl.tb n N sc top X → Takes X (WC K cl H0 C0 ex) → CPT X cl H0 C0 e (rdT G ex c)
variable {X : Cx} {top : Bool} {H0 : Hp} {C0 : CH} {ex : Kxs} {sc : Scope} {f : Expr → CE → Bool}
theorem snd_args (ok : XOk P w K mg base cl.tb n N sc top X) (tk : Takes X (WC K cl H0 C0 ex)) (hf : ∀ e c, f e c = true → SndE P w K mg base cl G n N sc e c) : ∀ {es : List Expr} {cs : List CE}, chkAs f es cs = true → CPA X cl H0 C0 es (rdA G ex cs) ∧ es.all notStar = true ∧ es.length = cs.length ∧ (es = [] → rdA G ex cs = cNil)
  | [], [], _ => ⟨cpa_nil, rfl, rfl, fun _ => rfl⟩
  | [], _ :: _, h => by simp [chkAs] at h
  | _ :: _, [], h => by simp [chkAs] at h
  | e :: es, c :: cs, h => by
    simp only [chkAs, Bool.and_eq_true] at h
    obtain ⟨⟨h1, h2⟩, h3⟩ := h
    obtain ⟨a, b, l, _⟩ := snd_args ok tk hf h3
    exact ⟨cpa_cons (hf e c h2 _ X H0 C0 ex ok tk) a (star_of h1), by rw [List.all_cons, h1, b]; rfl, congrArg (· + 1) l, fun z => nomatch z⟩
theorem snd_kws (ok : XOk P w K mg base cl.tb n N sc top X) (tk : Takes X (WC K cl H0 C0 ex)) (hf : ∀ e c, f e c = true → SndE P w K mg base cl G n N sc e c) : ∀ {es : List Keyword} {cs : List CE}, chkKs f es cs = true → CPK X cl H0 C0 es (rdA G ex cs)
  | [], [], _ => cpk_nil
  | [], _ :: _, h => by simp [chkKs] at h
  | ⟨_, _, _⟩ :: _, [], h => by simp [chkKs] at h
  | ⟨nm, e, p⟩ :: es, c :: cs, h => by
    simp only [chkKs, Bool.and_eq_true] at h
    exact cpk_cons (hf e c h.1 _ X H0 C0 ex ok tk) (snd_kws ok tk hf h.2)
theorem snd_o (ok : XOk P w K mg base cl.tb n N sc top X) (tk : Takes X (WC K cl H0 C0 ex)) (hf : ∀ e c, f e c = true → SndE P w K mg base cl G n N sc e c) : ∀ {e : Option Expr} {c : Option CE}, chkO f e c = true → CPO X cl H0 C0 e (rdO G ex c)
  | none, none, _ => cpo_none
  | some e, some c, h => cpo_some (hf e c h _ X H0 C0 ex ok tk)
  | none, some _, h => by simp [chkO] at h
  | some _, none, h => by simp [chkO] at h
theorem snd_ifs (ok : XOk P w K mg base cl.tb n N sc top X) (tk : Takes X (WC K cl H0 C0 ex)) (hf : ∀ e c, f e c = true → SndT P w K mg base cl G n N sc e c) {es : List Expr} {cs : List CE} (h : chkIfs f es cs = true) : CPTs X cl H0 C0 es (rdIfs G ex cs) := by
  match es, cs, h with
  | [], [], _ => exact cpts_nil
  | [e], [c], h => exact cpts_one (hf e c h _ X H0 C0 ex ok tk)
  | [], _ :: _, h => simp [chkIfs] at h
  | [_], [], h => simp [chkIfs] at h
  | [_], _ :: _ :: _, h => simp [chkIfs] at h
  | _ :: _ :: _, _, h => simp [chkIfs] at h
theorem snd_boolE_and (ok : XOk P w K mg base cl.tb n N sc top X) (tk : Takes X (WC K cl H0 C0 ex)) (hf : ∀ e c, f e c = true → SndE P w K mg base cl G n N sc e c) {pos : Pos} : ∀ {es : List Expr} {c : CE}, chkBool f .And es c = true → CPE X cl H0 C0 (.BoolOp .And es pos) (rdE G ex c)
  | [], c, h => by simp [chkBool] at h
  | [e], c, h => cpe_one (hf e c (by simpa [chkBool] using h) _ X H0 C0 ex ok tk)
  | e :: e' :: r, c, h => by
    cases c with
    | and a b =>
      simp only [chkBool, Bool.and_eq_true] at h
      exact cpe_and (hf e a h.1 _ X H0 C0 ex ok tk) (snd_boolE_and ok tk hf h.2)
    | _ => simp [chkBool] at h
theorem snd_boolE_or (ok : XOk P w K mg base cl.tb n N sc top X) (tk : Takes X (WC K cl H0 C0 ex)) (hf : ∀ e c, f e c = true → SndE P w K mg base cl G n N sc e c) {pos : Pos} : ∀ {es : List Expr} {c : CE}, chkBool f .Or es c = true → CPE X cl H0 C0 (.BoolOp .Or es pos) (rdE G ex c)
  | [], c, h => by simp [chkBool] at h
  | [e], c, h => cpe_one (hf e c (by simpa [chkBool] using h) _ X H0 C0 ex ok tk)
  | e :: e' :: r, c, h => by
    cases c with
    | or a b =>
      simp only [chkBool, Bool.and_eq_true] at h
      exact cpe_or (hf e a h.1 _ X H0 C0 ex ok tk) (snd_boolE_or ok tk hf h.2)
    | _ => simp [chkBool] at h
theorem snd_boolT_and (ok : XOk P w K mg base cl.tb n N sc top X) (tk : Takes X (WC K cl H0 C0 ex)) (hf : ∀ e c, f e c = true → SndT P w K mg base cl G n N sc e c) {pos : Pos} : ∀ {es : List Expr} {c : CE}, chkBool f .And es c = true → CPW X cl H0 C0 (.BoolOp .And es pos) (rdT G ex c)
  | [], c, h => by simp [chkBool] at h
  | [e], c, h => cpw_and1 (hf e c (by simpa [chkBool] using h) _ X H0 C0 ex ok tk)
  | e :: e' :: r, c, h => by
    cases c with
    | and a b =>
      simp only [chkBool, Bool.and_eq_true] at h
      exact cpw_and (hf e a h.1 _ X H0 C0 ex ok tk) (snd_boolT_and ok tk hf h.2)
    | _ => simp [chkBool] at h
theorem snd_boolT_or (ok : XOk P w K mg base cl.tb n N sc top X) (tk : Takes X (WC K cl H0 C0 ex)) (hf : ∀ e c, f e c = true → SndT P w K mg base cl G n N sc e c) {pos : Pos} : ∀ {es : List Expr} {c : CE}, chkBool f .Or es c = true → CPW X cl H0 C0 (.BoolOp .Or es pos) (rdT G ex c)
  | [], c, h => by simp [chkBool] at h
  | [e], c, h => cpw_or1 (hf e c (by simpa [chkBool] using h) _ X H0 C0 ex ok tk)
  | e :: e' :: r, c, h => by
    cases c with
    | or a b =>
      simp only [chkBool, Bool.and_eq_true] at h
      exact cpw_or (hf e a h.1 _ X H0 C0 ex ok tk) (snd_boolT_or ok tk hf h.2)
    | _ => simp [chkBool] at h
theorem snd_it (F : Facts T P w K mg base cl G n) (ok : XOk P w K mg base cl.tb n N sc top X) (tk : Takes X (WC K cl H0 C0 ex)) (hf : ∀ e c, f e c = true → SndE P w K mg base cl G n N sc e c) {tg iter : Expr} {k : IK} {cs : List CE} (h : chkIt T sc f tg iter k cs = true) : CPI X cl H0 C0 tg iter (semIK k (rdLs G ex cs)) ∧ notSet iter = true := by
  cases k with
  | seq =>
    match cs, h with
    | [a], h =>
      simp only [chkIt, Bool.and_eq_true] at h
      exact ⟨cpi_seq (hf _ _ h.1 _ X H0 C0 ex ok tk), h.2⟩
    | [], h => simp [chkIt] at h
    | _ :: _ :: _, h => simp [chkIt] at h
  | txt =>
    match cs, h with
    | [a], h =>
      simp only [chkIt, Bool.and_eq_true] at h
      exact ⟨cpi_txt (hf _ _ h.1 _ X H0 C0 ex ok tk), h.2⟩
    | [], h => simp [chkIt] at h
    | _ :: _ :: _, h => simp [chkIt] at h
  | rg1 =>
    match cs, h with
    | [a], h =>
      simp only [chkIt] at h
      split at h
      · simp only [Bool.and_eq_true, decide_eq_true_eq] at h
        obtain ⟨⟨⟨⟨h1, h2⟩, h3⟩, h4⟩, h5⟩ := h
        subst h1
        obtain ⟨g1, g2⟩ := glN_ok ok.sc_ h2
        have hm := F.blt _ h3
        rw [← ok.mg_] at hm
        exact ⟨cpi_rg1 g1 hm (cpa_cons (hf _ _ h5 _ X H0 C0 ex ok tk) cpa_nil (star_of h4)) (star_of h4), rfl⟩
      · cases h
    | [], h => simp [chkIt] at h
    | _ :: _ :: _, h => simp [chkIt] at h
/-- the parts of an f-string -/
theorem snd_js (ok : XOk P w K mg base cl.tb n N sc top X) (tk : Takes X (WC K cl H0 C0 ex)) (hf : ∀ e c, f e c = true → SndE P w K mg base cl G n N sc e c) : ∀ {es : List Expr} {cs : List CE}, chkAs f es cs = true → PJ X es ((rdLs G ex cs).map (tE X.K cl H0 C0))
  | [], [], _ => .nil
  | [], _ :: _, h => by simp [chkAs] at h
  | _ :: _, [], h => by simp [chkAs] at h
  | e :: es, c :: cs, h => by
    simp only [chkAs, Bool.and_eq_true] at h
    exact .cons (hf e c h.1.2 _ X H0 C0 ex ok tk) (snd_js ok tk hf h.2)
/-- a class by its name -/
theorem isiC_ok (F : Facts T P w K mg base cl G n) (ok : XOk P w K mg base cl.tb n N sc top X) {u : String ⊕ Nat} {z : Expr} (h : isiC T sc u z = true) : ∃ v w, PE X z (tC v) ∧ notStar z = true ∧ tyVal cl u = some w ∧ ClsV v w := by
  unfold isiC at h
  split at h
  · simp only [Bool.and_eq_true] at h
    obtain ⟨⟨k1, k2⟩, k3⟩ := h
    obtain ⟨g3, g4⟩ := glN_ok ok.sc_ k1
    split at k3
    · rename_i nm
      simp only [Bool.and_eq_true, decide_eq_true_eq, Bool.not_eq_true', decide_eq_false_iff_not] at k3
      obtain ⟨⟨l1, l2⟩, l3⟩ := k3
      have hm := F.blt _ l1
      rw [← ok.mg_] at hm
      exact ⟨.ty nm, .type nm, pe_bltn g3 hm l2 rfl l3 g4, k2, rfl, .ty nm⟩
    · rename_i kc
      have l1 := of_decide_eq_true k3
      obtain ⟨Ca, c1, c2⟩ := F.cls _ _ l1
      rw [← ok.mg_] at c2
      refine ⟨.ref Ca, .ref Ca, pe_glob g3 c2 rfl g4, k2, ?_, .own Ca⟩
      show (cl kc).map Value.ref = _
      rw [c1]; rfl
  · cases h
theorem isiCs_ok (F : Facts T P w K mg base cl G n) (ok : XOk P w K mg base cl.tb n N sc top X) : ∀ {us : List (String ⊕ Nat)} {zs : List Expr}, isiCs T sc us zs = true → ∃ vs ws, ClsL X cl zs us vs ws
  | [], [], _ => ⟨[], [], .nil⟩
  | [], _ :: _, h => by simp [isiCs] at h
  | _ :: _, [], h => by simp [isiCs] at h
  | u :: us, z :: zs, h => by
    simp only [isiCs, Bool.and_eq_true] at h
    obtain ⟨v, w, a, b, c, d⟩ := isiC_ok F ok h.1
    obtain ⟨vs, ws, L⟩ := isiCs_ok F ok h.2
    exact ⟨_, _, .cons a b c d L⟩
/-- a chain of two comparisons -/
theorem tChain_of {r r' : R2} {o o' : O2} {ca cb cc : CTE} (l : Lk2 X.K cl r o) (l' : Lk2 X.K cl r' o') : ∀ σ H Q, tE X.K cl H0 C0 (cChain o o' ca cb cc) σ H Q → tChain r r' (tE X.K cl H0 C0 ca) (tE X.K cl H0 C0 cb) (tE X.K cl H0 C0 cc) σ H Q :=
  fun σ H Q ⟨σc, C, Qc, S, h, hq⟩ => ⟨σc, C, _, S, h, fun d C1 v H1 h1 rv R1 k1 => ⟨σc, C1, _, S.step k1 R1, h1, fun e C2 u H2 h2 ru R2 k2 =>
    l H2 C2 d e v u _ _ (rv.keep R1 k2) ru R2 h2 fun z C3 w3 H3 ⟨k, ez, h3⟩ rz R3 k3 => by
      subst ez; cases rz
      refine ⟨k, rfl, ?_⟩
      have kk := (k1.trans k2).trans k3
      cases k with
      | true => exact iteT ⟨σc, C3, _, S.step kk R3, h3, fun f C4 w4 H4 h4 rf R4 k4 => l' H4 C4 e f u w4 Q Qc ((ru.keep R2 k3).keep R3 k4) rf R4 h4 (hq.from_ (kk.trans k4))⟩
      | false => exact iteF (hq _ _ _ _ h3 (.bl _) R3 kk)⟩⟩
theorem cpe_chain {op op' : CmpOp} {r r' : R2} {o o' : O2} {a b c : Expr} {ca cb cc : CTE} {pos : Pos} (ho : OpR X (compareOp op) r) (ho' : OpR X (compareOp op') r') (l : Lk2 X.K cl r o) (l' : Lk2 X.K cl r' o') (ha : CPE X cl H0 C0 a ca) (hb : CPE X cl H0 C0 b cb) (hc : CPE X cl H0 C0 c cc)
    (hm : lastMarks [op, op'] [b, c] = false) : CPE X cl H0 C0 (.Compare a [op, op'] [b, c] pos) (cChain o o' ca cb cc) := (pe_chain ho ho' ha hb hc hm).imp (tChain_of l l')
theorem cpt_chain {op op' : CmpOp} {r r' : R2} {o o' : O2} {a b c : Expr} {ca cb cc : CTE} {pos : Pos} (ho : OpR X (compareOp op) r) (ho' : OpR X (compareOp op') r') (l : Lk2 X.K cl r o) (l' : Lk2 X.K cl r' o') (ha : CPE X cl H0 C0 a ca) (hb : CPE X cl H0 C0 b cb) (hc : CPE X cl H0 C0 c cc)
    (hm : lastMarks [op, op'] [b, c] = false) : CPT X cl H0 C0 (.Compare a [op, op'] [b, c] pos) (cTst (cChain o o' ca cb cc)) :=
  (pt_chain ho ho' ha hb hc hm).imp fun σ H Q ⟨σc, C, Qc, S, h, hq⟩ => tChain_of l l' σ H _ ⟨σc, C, _, S, h, fun z C1 v H1 ⟨b, h1, h2⟩ rz R1 k1 => by
    subst h1; cases rz
    exact ⟨b, rfl, hq _ _ _ h2 R1 k1⟩⟩
theorem lk_I2 {P : Int → Int → Prop} {g : Int → Int → V} {g' : Int → Int → D} (hg : ∀ H i j, Rep K H (g' i j) (g i j)) : Lk2 K cl (rI P g) (oI2 P g') := fun H C d e v u Q Qc rd re R h hq => by
  cases d with
  | int i =>
    cases e with
    | int j => cases rd; cases re; exact ⟨i, j, rfl, rfl, h.1, hq.now h.2 (hg H i j) R⟩
    | _ => exact h.elim
  | _ => exact h.elim
theorem lk_I20 {g : Int → Int → V} {g' : Int → Int → D} (hg : ∀ H i j, Rep K H (g' i j) (g i j)) : Lk2 K cl (rI0 g) (oI2 (fun _ _ => True) g') := fun H C d e v u Q Qc rd re R h hq => by
  cases d with
  | int i =>
    cases e with
    | int j => cases rd; cases re; exact ⟨i, j, rfl, rfl, hq.now h.2 (hg H i j) R⟩
    | _ => exact h.elim
  | _ => exact h.elim
theorem lk_addA : Lk2 K cl (fun x y H Q => rI0 (fun i j => .int (i + j)) x y H Q ∨ ((∃ i j, x = .str i ∧ y = .str j ∧ i.length + j.length ≤ sizeLine ∧ Q (.str (i ++ j)) H) ∨ (rCatA K x y H Q ∨ rCat x y H Q))) oAddA := fun H C d e v u Q Qc rd re R h hq => by
  cases d with
  | int i =>
    cases e with
    | int j => cases rd; cases re; exact .inl ⟨i, j, rfl, rfl, hq.now h (.int _) R⟩
    | _ => exact h.elim
  | str i =>
    cases e with
    | str j => exact .inr (.inl (lk_addS H C _ _ v u Q Qc rd re R ⟨i, j, rfl, rfl, h.1, h.2⟩ hq))
    | _ => exact h.elim
  | tup xs =>
    cases e with
    | tup ys => exact .inr (.inr (.inl (lk_catT H C _ _ v u Q Qc rd re R ⟨xs, ys, rfl, rfl, h.1, h.2⟩ hq)))
    | _ => exact h.elim
  | ref a =>
    cases e with
    | ref b =>
      obtain ⟨xs, ys, h1, h2, h3, h4⟩ := h
      exact .inr (.inr (.inr (lk_cat H C _ _ v u Q Qc rd re R ⟨a, b, xs, ys, rfl, rfl, h1, h2, h3, h4⟩ hq)))
    | _ => exact h.elim
  | _ => exact h.elim
theorem lk_mulA {K : PySem.W.Frag} : Lk2 K cl (fun x y H Q => rI CMul (fun i j => .int (i * j)) x y H Q ∨ (rRepU K x y H Q ∨ (rRep x y H Q ∨ rRepS x y H Q))) oMulA := fun H C d e v u Q Qc rd re R h hq => by
  cases d with
  | str z =>
    cases e with
    | int k => cases rd; cases re; exact .inr (.inr (.inr ⟨z, k, rfl, rfl, h.1, h.2.1, h.2.2.1, hq.now h.2.2.2 (.str _) R⟩))
    | _ => exact h.elim
  | int i =>
    cases e with
    | int j => cases rd; cases re; exact .inl ⟨i, j, rfl, rfl, h.1, hq.now h.2 (.int _) R⟩
    | _ => exact h.elim
  | tup xs =>
    cases e with
    | int k => exact .inr (.inl (lk_mulT H C _ _ v u Q Qc rd re R ⟨xs, k, rfl, rfl, h.1, h.2.1, h.2.2.1, h.2.2.2.1, h.2.2.2.2⟩ hq))
    | _ => exact h.elim
  | ref a =>
    cases e with
    | int k =>
      obtain ⟨xs, h1, h2, h3, h4, h5⟩ := h
      cases rd; cases re
      obtain ⟨vs, g1, r1⟩ := R a _ h1
      exact .inr (.inr (.inl ⟨a, k, vs, rfl, rfl, g1, h2, h3, by rw [← r1.length]; exact h4, fun l hl => hq.lst (r1.rep _) R hl (h5 l (free_of R hl))⟩))
    | _ => exact h.elim
  | _ => exact h.elim
theorem semB_ok (o : OpB) : ∃ r, OpR X (binaryOp (opN o)) r ∧ Lk2 X.K cl r (semB o) := by
  cases o with
  | add => exact ⟨_, op_add.or (op_add_str.or (op_catA.or op_cat)), lk_addA⟩
  | sub => exact ⟨_, op_sub, lk_I20 fun _ _ _ => .int _⟩
  | mul => exact ⟨_, op_mul.or (op_repU.or (op_rep.or op_repS)), lk_mulA⟩
  | fdiv => exact ⟨_, op_fdivN, lk_I2 fun _ _ _ => .int _⟩
  | mod => exact ⟨_, op_modN, lk_I2 fun _ _ _ => .int _⟩
  | pow => exact ⟨_, op_pow, lk_I2 fun _ _ _ => .int _⟩
theorem semC_ok (hP : cl.P = X.prog) (hw : cl.w = X.w) (h10 : 10 ≤ n) (hr : Room n X.A) (o : OpC) : ∃ r, OpR X (compareOp (opCN o)) r ∧ Lk2 X.K cl r (semC o) := by
  have hu : X.A.units + 65 < cLine := by have := hr.un; omega
  cases o with
  | eq => exact ⟨_, op_eqN (by have := hr.un; omega), lk_eqN id⟩
  | ne => exact ⟨_, op_neN (by have := hr.un; omega), lk_eqN not⟩
  | lt => exact ⟨_, op_lt, lk_I20 fun _ _ _ => .bl _⟩
  | le => exact ⟨_, op_le, lk_I20 fun _ _ _ => .bl _⟩
  | gt => exact ⟨_, op_gt, lk_I20 fun _ _ _ => .bl _⟩
  | ge => exact ⟨_, op_ge, lk_I20 fun _ _ _ => .bl _⟩
  | is => exact ⟨_, op_isN, lk_is⟩
  | isNot => exact ⟨_, op_notN, lk_isnot⟩
  | inD => exact ⟨_, op_inD hu, lk_inD⟩
  | inF => exact ⟨_, op_in_seq, lk_inF⟩
  | inS => exact ⟨_, op_in_sign, lk_inS⟩
  | notInS => exact ⟨_, op_notIn_sign, lk_notInS⟩
theorem lk_neg : Lk1 K cl (rU fun i => .int (-i)) oNeg := fun H C d v Q Qc rd R h hq => by
  cases d with
  | int i => cases rd; exact ⟨i, rfl, hq.now h (.int _) R⟩
  | _ => exact h.elim
theorem semBI_ok (hc : X.calm = true) (hgd : X.A.guards = some []) (h10 : 10 ≤ n) (hr : Room n X.A) (b : BI) : ∃ r, ((CallR X (.builtin (String.ofList ((biN b).cps.toList.map Char.ofNat))) r ∧ bootBuiltins (biN b) = some (.builtin (String.ofList ((biN b).cps.toList.map Char.ofNat)))) ∨ (CallR X (.type (String.ofList ((biN b).cps.toList.map Char.ofNat))) r ∧ bootBuiltins (biN b) = some (.type (String.ofList ((biN b).cps.toList.map Char.ofNat))))) ∧ LkL X.K cl r (semBI b) := by
  cases b with
  | len => exact ⟨_, .inl ⟨call_len_seq.or call_len_str, by decide +kernel⟩, lk_len⟩
  | int => exact ⟨_, .inr ⟨call_int1, by decide +kernel⟩, lk_int⟩
  | tuple => exact ⟨_, .inr ⟨call_tuple_of, by decide +kernel⟩, lk_tuple⟩
  | all => exact ⟨_, .inl ⟨cr_all hc, by decide +kernel⟩, lk_allB⟩
  | any => exact ⟨_, .inl ⟨cr_any hc, by decide +kernel⟩, lk_anyB⟩
  | maxL => exact ⟨_, .inl ⟨cr_max hc, by decide +kernel⟩, lk_maxL⟩
  | min2 => exact ⟨_, .inl ⟨call_min2 hc, by decide +kernel⟩, lk_min2⟩
  | abs => exact ⟨_, .inl ⟨call_abs, by decide +kernel⟩, lk_abs⟩
  | repr => exact ⟨_, .inl ⟨call_reprA hgd (by have := hr.un; omega), by decide +kernel⟩, lk_repr⟩
  | str => exact ⟨_, .inr ⟨call_str_int, by decide +kernel⟩, lk_strI⟩
  | intS => exact ⟨_, .inr ⟨call_int_str, by decide +kernel⟩, lk_intS⟩
theorem cDic_ok (ok : XOk P w K mg base cl.tb n N sc top X) (tk : Takes X (WC K cl H0 C0 ex)) (hf : ∀ e c, f e c = true → SndE P w K mg base cl G n N sc e c) {pos : Pos} : ∀ {ks : List (Option Expr)} {vs : List Expr} {cs ds : List CE}, chkDs f ks vs cs ds = true →
    ∃ trs, PPs X pos ks vs trs ∧ ks.all (·.isSome) = true ∧ ∀ σ H σc C Qc (Q : List (V × V) → Hp → Prop), S3 X.K cl H0 C0 σ H σc C → cPrs (rdLs G ex cs) (rdLs G ex ds) σc C Qc →
      (∀ ps C' qs H', Qc ps C' → RepL X.K H' (ps.map (·.1)) (qs.map (·.1)) → RepL X.K H' (ps.map (·.2)) (qs.map (·.2)) → Rel X.K cl H' C' → Keep H C H' C' → Q qs H') → tPairs trs σ H Q
  | [], [], [], [], _ => ⟨[], pps_nil, rfl, fun σ H σc C Qc Q S h hq => hq [] C [] H h .nil .nil S.r Keep.refl⟩
  | some k :: ks, v :: vs, c :: cs, d :: ds, h => by
    simp only [chkDs, Bool.and_eq_true] at h
    obtain ⟨⟨h1, h2⟩, h3⟩ := h
    obtain ⟨trs, p, a, q⟩ := cDic_ok ok tk hf h3
    refine ⟨_, pps_cons (hf k c h1 _ X H0 C0 ex ok tk) (hf v d h2 _ X H0 C0 ex ok tk) p, by rw [List.all_cons, a]; rfl, fun σ H σc C Qc Q S h hq => ⟨σc, C, _, S, h, fun x C1 xv H1 h1 rx R1 k1 => ⟨σc, C1, _, S.step k1 R1, h1, fun y C2 yv H2 h2 ry R2 k2 => ?_⟩⟩⟩
    refine q σ H2 σc C2 _ _ ((S.step k1 R1).step k2 R2) h2 fun ps C3 qs H3 h3 r1 r2 R3 k3 => ?_
    exact hq _ C3 _ H3 h3 (.cons ((rx.keep R1 k2).keep R2 k3) r1) (.cons (ry.keep R2 k3) r2) R3 ((k1.trans k2).trans k3)
  | [], [], [], _ :: _, h => by simp [chkDs] at h
  | [], [], _ :: _, _, h => by simp [chkDs] at h
  | [], _ :: _, _, _, h => by simp [chkDs] at h
  | none :: _, _, _, _, h => by simp [chkDs] at h
  | some _ :: _, [], _, _, h => by simp [chkDs] at h
  | some _ :: _, _ :: _, [], _, h => by simp [chkDs] at h
  | some _ :: _, _ :: _, _ :: _, [], h => by simp [chkDs] at h
theorem dicOf_rep {H : Hp} : ∀ {kvs : List (Key × D)} {vs : List (Key × V)} {acc : List (Key × D)} {acv : List (Key × V)}, RepF K H kvs vs → RepF K H acc acv → RepF K H (kvs.foldl (fun acc p => putC acc p.1 p.2) acc) (vs.foldl (fun acc p => putK acc p.1 p.2) acv)
  | [], vs, acc, acv, h, a => by cases h; exact a
  | (k, d) :: kvs, vs, acc, acv, h, a => by
    cases h with
    | cons r t =>
      rename_i v vs'
      exact dicOf_rep (kvs := kvs) (vs := vs') (acc := putC acc k d) (acv := putK acv k v) t (a.put _ r)
theorem cpe_dic (ok : XOk P w K mg base cl.tb n N sc top X) (tk : Takes X (WC K cl H0 C0 ex)) (hf : ∀ e c, f e c = true → SndE P w K mg base cl G n N sc e c) {pos : Pos} {ks : List (Option Expr)} {vs : List Expr} {cs ds : List CE} (h : chkDs f ks vs cs ds = true) (h0 : ks ≠ []) (h15 : ks.length ≤ 15) (hl : ks.length = vs.length) :
    CPE X cl H0 C0 (.Dict ks vs pos) (cDic (rdLs G ex cs) (rdLs G ex ds)) := by
  obtain ⟨trs, p, a, q⟩ := cDic_ok (pos := pos) ok tk hf h
  refine (pe_disp p a hl h0 h15).imp fun σ H Q ⟨σc, C, Qc, S, h, hq⟩ p hp => ?_
  have R1 := S.r.newH hp (.dK [])
  have k1 := keep_newH hp (.dK []) S.r
  refine q σ _ σc C _ _ (S.step k1 R1) h fun ps C3 qs H3 ⟨kvs, e1, e2, e3, h3⟩ r1 r2 R3 k3 => ?_
  have hC : C p = none := free_of S.r hp
  obtain ⟨hp3, hC3⟩ := k3 p _ upd_same hC .dK
  -- the pairs by keys
  have go : ∀ (ps : List (D × D)) (qs : List (V × V)) (kvs : List (Key × D)), RepL X.K H3 (ps.map (·.1)) (qs.map (·.1)) → RepL X.K H3 (ps.map (·.2)) (qs.map (·.2)) → kvs.map (fun p => p.2) = ps.map (·.2) → ps.map (fun p => keyD p.1) = kvs.map (fun p => some p.1) →
      ∃ kvv : List (Key × V), qs = kvv.map (fun kv => (kV kv.1, kv.2)) ∧ RepF X.K H3 kvs kvv := by
    intro ps
    induction ps with
    | nil =>
      intro qs kvs a1 a2 a3 a4
      cases qs with
      | nil =>
        cases kvs with
        | nil => exact ⟨[], rfl, .nil⟩
        | cons _ _ => cases a3
      | cons _ _ => cases a1
    | cons pr ps ih =>
      intro qs kvs a1 a2 a3 a4
      cases qs with
      | nil => cases a1
      | cons qr qs =>
        cases kvs with
        | nil => cases a3
        | cons kr kvs =>
          rw [List.map_cons, List.map_cons] at a1 a2 a3 a4
          cases a1 with
          | cons x1 t1 =>
            cases a2 with
            | cons x2 t2 =>
              injection a3 with b1 b2
              injection a4 with c1 c2
              obtain ⟨kvv, d1, d2⟩ := ih qs kvs t1 t2 b2 c2
              have ek := keyD_rep c1 x1
              obtain ⟨q1, q2⟩ := qr
              obtain ⟨k1', k2'⟩ := kr
              simp only at b1 x2 ek
              subst b1
              exact ⟨(k1', q2) :: kvv, by rw [d1, List.map_cons]; exact congrArg (· :: _) (Prod.ext ek rfl), .cons x2 d2⟩
  obtain ⟨kvv, d1, d2⟩ := go ps qs kvs r1 r2 e1 e2
  refine ⟨hp3, kvv, d1, by rw [← d2.length]; exact e3, ?_⟩
  have dr := dicOf_rep (K := X.K) (H := H3) d2 .nil
  have nt : ∀ (b : Addr) (xs : List V), Rd H3 b (.tup xs) → b ≠ p := fun b xs h z => by
    subst z
    rcases h with h | ⟨u, h⟩ <;> (rw [hp3] at h; cases h)
  -- the dict at p is written: seen from a clean heap that knows it as empty
  have R4 : Rel X.K cl H3 (cup C3 p (.dic [])) := ⟨fun b o hb => by
    by_cases z : b = p
    · subst z; rw [cup_same] at hb; cases hb; exact ⟨[], hp3, .nil⟩
    · rw [cup_ne z] at hb; exact R3 b o hb, R3.tab⟩
  have kw : Keep H3 (cup C3 p (.dic [])) (upd H3 p (.dK (mergeK [] kvv))) (cup (cup C3 p (.dic [])) p (.dic (dicOf kvs))) := Keep.write cup_same _ _
  have R5 := R4.write (u' := .dic (dicOf kvs)) (o' := .dK (mergeK [] kvv)) cup_same hp3 (fun xs h => nt p xs h rfl) ⟨_, upd_same, dr.keep R4 kw⟩
  rw [cup_cup] at R5
  refine hq _ _ _ _ (h3 p hC3) (.ref p) R5 fun b o hb hn ht => ?_
  obtain ⟨z1, z2⟩ := (k1.trans k3) b o hb hn ht
  have nb : b ≠ p := ne_of_none hb hp
  exact ⟨by rw [upd_ne nb]; exact z1, by rw [cup_ne nb]; exact z2⟩
theorem kshape {np k : Nat} {g : List Src} {kn : Option (List Str)} {o : List Str → Option (Nat × List Src)} (h : shC kn k o np g = true) : ∃ ks, kn = some ks ∧ ks.length = k ∧ o ks = some (np, g) := by
  unfold shC at h
  cases kn with
  | none => cases h
  | some ks =>
    simp only [Bool.and_eq_true, decide_eq_true_eq] at h
    obtain ⟨h1, h2⟩ := h
    cases e : o ks with
    | none => rw [e] at h2; cases h2
    | some p =>
      obtain ⟨a, b⟩ := p
      rw [e] at h2
      simp only [Bool.and_eq_true, decide_eq_true_eq] at h2
      obtain ⟨h3, h4⟩ := h2
      exact ⟨ks, rfl, h1, by rw [e, h3, beqSs_eq h4]⟩
theorem lookup_mapv {α β : Type} {f : Str × α → Str × β} {g : Str → α → β} (hf : ∀ n k, f (n, k) = (n, g n k)) {x : Str} : ∀ {names : List (Str × α)}, (names.map f).lookup x = (names.lookup x).map (g x)
  | [] => rfl
  | (n, k) :: r => by
    rw [List.map_cons, hf, List.lookup_cons, List.lookup_cons, lookup_mapv hf]
    cases hb : x == n with
    | true =>
      have e : x = n := by simpa using hb
      subst e
      rfl
    | false => rfl
theorem rel_local {scope : Scope} {env : Env} {x : Str} {k : NameKind} (hk : (k == .free) = false) (h : scope.names.lookup x = some k) : (PySem.relabel scope env).names.lookup x = some k := by
  show (scope.names.map fun (n, k) => if (k == .free && env.scope.kind == .function && env.kindOf n == some .cell) then (n, .cell) else (n, k)).lookup x = some k
  rw [lookup_mapv (g := fun n k => if (k == .free && env.scope.kind == .function && env.kindOf n == some .cell) = true then .cell else k) (fun n k => by dsimp only; split <;> rfl), h]
  show some (if (k == .free && env.scope.kind == .function && env.kindOf x == some .cell) = true then .cell else k) = some k
  rw [hk]
  rfl
/-- the target of a comprehension -/
theorem blk_tg (ok : XOk P w K mg base cl.tb n N sc top X) {scope : Scope} {tg : Expr} {T' : CT} (h : tgC N scope tg T' = true) {s : Shared} {H : Hp} {C : Addr} {cs : List (Str × Addr)} {fp : List Addr} :
    PG (X.blk s H scope (compEnvC scope cs C X.env) fp) tg (tgV K T') := by
  have one : ∀ x i, nmL N scope x i = true → (X.blk s H scope (compEnvC scope cs C X.env) fp).N[i]? = some x ∧ L2.Loc (X.blk s H scope (compEnvC scope cs C X.env) fp).env.scope x ∧ ((X.blk s H scope (compEnvC scope cs C X.env) fp).fn x = true ∨ (X.blk s H scope (compEnvC scope cs C X.env) fp).env.scope.names.lookup x = some .local) := fun x i hx => by
    obtain ⟨h1, h2⟩ := nmL_ok hx
    refine ⟨by show X.N[i]? = some x; rw [ok.N_]; exact h1, ?_, ?_⟩
    · rcases h2 with h2 | h2
      · exact .inl (rel_local rfl h2)
      · exact .inr (rel_local rfl h2)
    · rcases h2 with h2 | h2
      · exact .inr (rel_local rfl h2)
      · exact .inl (by show (scope.names.lookup x == some .cell) = true; rw [h2]; rfl)
  have nd : (X.blk s H scope (compEnvC scope cs C X.env) fp).N.Nodup := by show X.N.Nodup; rw [ok.N_]; exact ok.nd
  cases T' with
  | nm i =>
    unfold tgC at h
    simp only at h
    split at h
    · obtain ⟨a, b, c⟩ := one _ _ h
      exact pg_name nd a b c
    · cases h
  | tp is =>
    unfold tgC at h
    simp only at h
    split at h
    · rename_i xs k p
      simp only [Bool.and_eq_true, decide_eq_true_eq, List.all_eq_true] at h
      obtain ⟨hl, ha⟩ := h
      have ck : (X.blk s H scope (compEnvC scope cs C X.env) fp).K = K := ok.K_
      have len : ∀ (es : List Expr) (env : Env), (assignEach es env).length = es.length := fun es env => by
        induction es with
        | nil => rfl
        | cons e es ih => cases e <;> exact congrArg (· + 1) ih
      have names : ∀ e ∈ xs, ∃ x p, e = .Name x p := fun e he => by
        obtain ⟨j, hj, ej⟩ := List.getElem_of_mem he
        have := ha (e, is[j]'(by omega)) (by rw [← ej]; exact List.mem_of_getElem? (i := j) (by rw [List.getElem?_zip_eq_some]; exact ⟨List.getElem?_eq_getElem hj, List.getElem?_eq_getElem (by omega)⟩))
        cases e <;> first | exact ⟨_, _, rfl⟩ | (simp at this)
      have nostar : ∀ (es : List Expr) (env : Env), (∀ e ∈ es, ∃ x p, e = Expr.Name x p) → (assignEach es env).findIdx? (·.1) = none := fun es env => by
        induction es with
        | nil => intro _; rfl
        | cons e es ih =>
          intro hn
          obtain ⟨x, p, rfl⟩ := hn e List.mem_cons_self
          show List.findIdx? (·.1) ((false, _) :: assignEach es env) = none
          rw [List.findIdx?_cons]
          simp [ih fun e he => hn e (List.mem_cons_of_mem _ he)]
      have all := pgs_all (X := X.blk s H scope (compEnvC scope cs C X.env) fp) nd hl fun j e i a b => by
        have := ha (e, i) (List.mem_of_getElem? (i := j) (by rw [List.getElem?_zip_eq_some]; exact ⟨a, b⟩))
        cases e <;> first | (obtain ⟨a1, a2, a3⟩ := one _ _ this; exact ⟨_, _, rfl, a1, a2, a3⟩) | (simp at this)
      have := pg_tup (X := X.blk s H scope (compEnvC scope cs C X.env) fp) (k := k) (pos := p) (n := is.length) ok.calm all (by rw [len]; exact hl) (nostar _ _ names)
      rw [ck] at this
      exact this
    · cases h
end
end L3
namespace L3
open PySem L2
section
variable {T : Tab} {P : Program} {w : World} {K : PySem.W.Frag} {mg : Str → Option Value} {base : Heap} {cl : ClsT} {G : G3} {n : Nat} {N : List Str}
theorem blk_ok {top : Bool} {X : Cx} {sc scope : Scope} {s : Shared} {H : Hp} {C : Addr} {cs : List (Str × Addr)} {fp : List Addr} (ok : XOk P w K mg base cl.tb n N sc top X) (hk : scope.kind = .function) (hnl : ∀ r ∈ cl.tb, r.names ≠ (relS scope sc).names) : XOk P w K mg base cl.tb n N (relS scope sc) false (X.blk s H scope (compEnvC scope cs C X.env) fp) := by
  refine ⟨ok.P_, ok.w_, ok.K_, ok.mg_, ok.base_, ok.N_, ok.nd, ?_, hk, ok.calm, ok.room, fun z => (nomatch z), PassesOwn.never, ok.gd, fun z => (nomatch z), fun r hr e => absurd e (hnl r hr)⟩
  show PySem.relabel scope X.env = relS scope sc
  rw [← ok.sc_]
  rfl
theorem noLam (F : Facts T P w K mg base cl G n) {l : List (Str × NameKind)} (h : T.lamS l = none) : ∀ r ∈ cl.tb, r.names ≠ l := fun r hr e => by
  obtain ⟨j, hj⟩ := List.getElem?_of_mem hr
  exact F.lamI j r hj (by rw [e]; exact h)
theorem noArgs_eq {p : Arguments} (h : noArgs p = true) : p = ⟨[], [], none, [], [], none, []⟩ := by
  unfold noArgs at h
  split at h
  · rfl
  · cases h
theorem chk_soundG : ∀ fuel {G : G3} {n : Nat} (F : Facts T P w K mg base cl G n) sc e c, (chkE T N fuel sc e c = true → SndE P w K mg base cl G n N sc e c) ∧ (chkT T N fuel sc e c = true → SndT P w K mg base cl G n N sc e c)
  | 0, G, n, F, sc, e, c => ⟨fun h => by simp [chkE] at h, fun h => by simp [chkT] at h⟩
  | fuel + 1, G, n, F, sc, e, c => by
    have ihE : ∀ e c, chkE T N fuel sc e c = true → SndE P w K mg base cl G n N sc e c := fun e c => (chk_soundG fuel F sc e c).1
    have ihT : ∀ e c, chkT T N fuel sc e c = true → SndT P w K mg base cl G n N sc e c := fun e c => (chk_soundG fuel F sc e c).2
    refine ⟨fun h top X H0 C0 ex ok tk => ?_, fun h top X H0 C0 ex ok tk => ?_⟩
    · have go : ∀ {e c}, chkE T N fuel sc e c = true → CPE X cl H0 C0 e (rdE G ex c) := fun h => ihE _ _ h top X H0 C0 ex ok tk
      have goT : ∀ {e c}, chkT T N fuel sc e c = true → CPT X cl H0 C0 e (rdT G ex c) := fun h => ihT _ _ h top X H0 C0 ex ok tk
      have hu : X.A.units + 1 < cLine := hu_of ok.room
      cases c with
      | var i =>
        simp only [chkE] at h
        split at h
        · obtain ⟨h1, h2, h3, h4⟩ := nmV_ok h
          exact cpe_var (by rw [ok.N_]; exact h1) (by rw [ok.sc_]; exact h2) h3 h4
        · cases h
      | cst d =>
        simp only [chkE] at h
        split at h
        · split at h
          · exact cpe_non
          · rw [eq_of_beq h]; exact cpe_bl
          · rw [eq_of_beq h]; exact cpe_int
          · rw [of_decide_eq_true h]; exact cpe_str
          · cases h
        · cases h
      | glb x d =>
        simp only [chkE] at h
        split at h
        · simp only [Bool.and_eq_true, decide_eq_true_eq] at h
          obtain ⟨⟨h1, h2⟩, h3⟩ := h
          subst h1
          obtain ⟨g1, g2⟩ := glN_ok ok.sc_ h2
          split at h3
          · rename_i d' hd
            obtain ⟨u, v, m1, m2, m3⟩ := F.glb _ _ hd
            rw [← beqD_eq h3] at m3
            rw [← ok.mg_] at m1
            rw [← ok.K_] at m3
            exact cpe_glob g1 m1 m2 m3 g2
          · cases h3
        · cases h
      | bin o a b =>
        simp only [chkE] at h
        split at h
        · simp only [Bool.and_eq_true, decide_eq_true_eq] at h
          obtain ⟨⟨h1, h2⟩, h3⟩ := h
          subst h1
          obtain ⟨r, r1, r2⟩ := semB_ok (X := X) (cl := cl) o
          exact cpe_bin r1 r2 (go h2) (go h3)
        · cases h
      | neg a =>
        simp only [chkE] at h
        split at h
        · exact cpe_un un_neg lk_neg (go h)
        · cases h
      | cmp o a b =>
        simp only [chkE] at h
        split at h
        · simp only [Bool.and_eq_true, decide_eq_true_eq] at h
          obtain ⟨⟨⟨h1, h2⟩, h3⟩, h4⟩ := h
          subst h1
          obtain ⟨r, r1, r2⟩ := semC_ok (cl := cl) (by rw [F.clP, ok.P_]) (by rw [F.clw, ok.w_]) F.lv ok.room o
          exact cpe_cmp r1 r2 (go h3) (go h4) (notSet_mark h2)
        · cases h
      | chain o o' a b c =>
        simp only [chkE] at h
        split at h
        · simp only [Bool.and_eq_true, decide_eq_true_eq] at h
          obtain ⟨⟨⟨⟨⟨h1, h1'⟩, h2⟩, h3⟩, h4⟩, h5⟩ := h
          subst h1; subst h1'
          obtain ⟨r, r1, r2⟩ := semC_ok (cl := cl) (by rw [F.clP, ok.P_]) (by rw [F.clw, ok.w_]) F.lv ok.room o
          obtain ⟨r', r1', r2'⟩ := semC_ok (cl := cl) (by rw [F.clP, ok.P_]) (by rw [F.clw, ok.w_]) F.lv ok.room o'
          exact cpe_chain r1 r1' r2 r2' (go h3) (go h4) (go h5) (notSet_mark h2)
        · cases h
      | and a b =>
        simp only [chkE] at h
        split at h
        · exact snd_boolE_and ok tk (fun e c h => ihE e c h) h
        · cases h
      | or a b =>
        simp only [chkE] at h
        split at h
        · exact snd_boolE_or ok tk (fun e c h => ihE e c h) h
        · cases h
      | not a =>
        simp only [chkE] at h
        split at h
        · exact cpe_not (go h)
        · cases h
      | ite t a b =>
        simp only [chkE] at h
        split at h
        · simp only [Bool.and_eq_true] at h
          obtain ⟨⟨h1, h2⟩, h3⟩ := h
          exact cpe_if (goT h1) (go h2) (go h3)
        · cases h
      | tup es =>
        simp only [chkE] at h
        split at h
        · exact cpe_tup (snd_args ok tk ihE h).1
        · cases h
      | lst es =>
        simp only [chkE] at h
        split at h
        · exact cpe_lst (snd_args ok tk ihE h).1
        · cases h
      | dic ks vs =>
        simp only [chkE] at h
        split at h
        · simp only [Bool.and_eq_true, decide_eq_true_eq, Bool.not_eq_true'] at h
          obtain ⟨⟨⟨h1, h2⟩, h3⟩, h4⟩ := h
          exact cpe_dic ok tk ihE h1 (fun z => by rw [z] at h2; cases h2) h3 h4
        · cases h
      | idx a b =>
        simp only [chkE] at h
        split at h
        · simp only [Bool.and_eq_true] at h
          obtain ⟨⟨h1, h2⟩, h3⟩ := h
          exact cpe_ix hu (go h1) (go h2) h3
        · cases h
      | nev => exact cpe_nev
      | slice a lo hi =>
        simp only [chkE] at h
        split at h
        · simp only [Bool.and_eq_true] at h
          obtain ⟨⟨h1, h2⟩, h3⟩ := h
          exact cpe_slice (go h1) (snd_o ok tk ihE h2) (snd_o ok tk ihE h3)
        · cases h
      | call f np m k g es ks =>
        simp only [chkE] at h
        split at h
        · simp only [Bool.and_eq_true, decide_eq_true_eq] at h
          obtain ⟨⟨⟨⟨h1, h2⟩, h3⟩, h4⟩, h5⟩ := h
          obtain ⟨g1, g2⟩ := glN_ok ok.sc_ h1
          obtain ⟨kn, e1, e2, e3⟩ := kshape h3
          obtain ⟨a, m1, m2, fd, ps, np', F1, F2⟩ := F.fn _ _ h2
          obtain ⟨rfl, B⟩ := F2 _ _ _ _ e3
          obtain ⟨A, A1, A2, A3⟩ := snd_args ok tk ihE h4
          obtain ⟨rfl, rfl, rfl, rfl, rfl⟩ := (⟨ok.P_, ok.w_, ok.K_, ok.mg_, ok.base_⟩ : X.prog = P ∧ X.w = w ∧ X.K = K ∧ X.mg = mg ∧ X.base = base)
          subst e2
          exact cpe_call F1 ok.room ok.gd g1 m1 m2 B tk A1 e1 A (snd_kws ok tk ihE h5) A3 g2
        · cases h
      | isi u a =>
        simp only [chkE] at h
        split at h
        · simp only [Bool.and_eq_true, decide_eq_true_eq] at h
          obtain ⟨⟨⟨⟨⟨h1, h2⟩, h3⟩, h4⟩, h5⟩, h6⟩ := h
          subst h1
          obtain ⟨g1, g2⟩ := glN_ok ok.sc_ h2
          have hm := F.blt _ h3
          rw [← ok.mg_] at hm
          unfold isiC at h6
          split at h6
          · rename_i x' p'
            simp only [Bool.and_eq_true] at h6
            obtain ⟨⟨k1, k2⟩, k3⟩ := h6
            obtain ⟨g3, g4⟩ := glN_ok ok.sc_ k1
            obtain ⟨rfl, rfl, rfl, rfl, rfl⟩ := (⟨ok.P_, ok.w_, ok.K_, ok.mg_, ok.base_⟩ : X.prog = P ∧ X.w = w ∧ X.K = K ∧ X.mg = mg ∧ X.base = base)
            split at k3
            · rename_i nm
              simp only [Bool.and_eq_true, decide_eq_true_eq, Bool.not_eq_true', decide_eq_false_iff_not] at k3
              obtain ⟨⟨l1, l2⟩, l3⟩ := k3
              exact cpe_isi (vc := .ty nm) F.kit (fun c Ca b z1 z2 => F.kitc c _ b Ca z1 z2) (go h4) (pe_bltn g3 (F.blt _ l1) l2 rfl l3 g4) (fun w' hw => by cases hw; exact .ty nm) g1 hm h5 k2
            · rename_i kc
              have l1 := of_decide_eq_true k3
              obtain ⟨Ca, c1, c2⟩ := F.cls _ _ l1
              exact cpe_isi (vc := .ref Ca) F.kit (fun c Ca b z1 z2 => F.kitc c _ b Ca z1 z2) (go h4) (pe_glob g3 c2 rfl g4) (fun w' hw => by
                have hw' : (cl kc).map Value.ref = some w' := hw
                rw [c1] at hw'
                cases hw'
                exact .own Ca) g1 hm h5 k2
          · cases h6
        · cases h
      | fmt a =>
        simp only [chkE] at h
        split at h
        · simp only [Bool.and_eq_true, decide_eq_true_eq] at h
          rw [h.1]
          exact cpe_fmt (go h.2)
        · cases h
      | fst es =>
        simp only [chkE] at h
        split at h
        · exact cpe_fst (snd_js ok tk ihE h)
        · cases h
      | bi b es =>
        simp only [chkE] at h
        split at h
        · rename_i x0 p0 xs pos0
          simp only [Bool.and_eq_true, decide_eq_true_eq] at h
          obtain ⟨⟨⟨⟨h1, h2⟩, h3⟩, h4⟩, h5⟩ := h
          subst h1
          obtain ⟨g1, g2⟩ := glN_ok ok.sc_ h2
          have hm := F.blt _ h3
          rw [← ok.mg_] at hm
          obtain ⟨A, A1, A2, A3⟩ := snd_args ok tk ihE h5
          obtain ⟨r, hr, l⟩ := semBI_ok (X := X) (cl := cl) ok.calm ok.gd F.lv ok.room b
          have hn : biN b ≠ ("__name__" : Str) := by cases b <;> decide +kernel
          cases xs with
          | nil => cases b <;> simp [biA] at h4
          | cons x xs =>
            rw [List.all_cons, Bool.and_eq_true] at A1
            rcases hr with ⟨hc, hv⟩ | ⟨hc, hv⟩
            · exact cpe_callB hc l g1 hm hv A hn g2 (star_of A1.1) (star_any A1.2)
            · exact cpe_callTy hc l g1 hm hv A hn g2 (star_of A1.1) (star_any A1.2)
        · cases h
      | gix x tab b =>
        simp only [chkE] at h
        split at h
        · simp only [Bool.and_eq_true, decide_eq_true_eq] at h
          obtain ⟨⟨⟨⟨h1, h2⟩, h3⟩, h4⟩, h5⟩ := h
          subst h1
          obtain ⟨g1, g2⟩ := glN_ok ok.sc_ h2
          obtain ⟨p, m1, m2, m3⟩ := F.gdc _ _ h3
          obtain ⟨rfl, rfl, rfl, rfl, rfl⟩ := (⟨ok.P_, ok.w_, ok.K_, ok.mg_, ok.base_⟩ : X.prog = P ∧ X.w = w ∧ X.K = K ∧ X.mg = mg ∧ X.base = base)
          exact cpe_gix g1 m1 m2 (go h5) h4 g2
        · cases h
      | gin x tab a =>
        simp only [chkE] at h
        split at h
        · simp only [Bool.and_eq_true, decide_eq_true_eq] at h
          obtain ⟨⟨⟨h1, h2⟩, h3⟩, h4⟩ := h
          subst h1
          obtain ⟨g1, g2⟩ := glN_ok ok.sc_ h2
          obtain ⟨p, m1, m2, m3⟩ := F.gdc _ _ h3
          obtain ⟨rfl, rfl, rfl, rfl, rfl⟩ := (⟨ok.P_, ok.w_, ok.K_, ok.mg_, ok.base_⟩ : X.prog = P ∧ X.w = w ∧ X.K = K ∧ X.mg = mg ∧ X.base = base)
          exact cpe_gin g1 m1 m2 (go h4) g2
        · cases h
      | getW x tab a b =>
        simp only [chkE] at h
        split at h
        · simp only [Bool.and_eq_true, decide_eq_true_eq] at h
          obtain ⟨⟨⟨⟨⟨⟨⟨⟨h1, h2⟩, h3⟩, h4⟩, h5⟩, h6⟩, h7⟩, h8⟩, h9⟩ := h
          subst h1
          subst h2
          obtain ⟨g1, g2⟩ := glN_ok ok.sc_ h3
          obtain ⟨p, m1, m2, m3⟩ := F.gdc _ _ h4
          obtain ⟨rfl, rfl, rfl, rfl, rfl⟩ := (⟨ok.P_, ok.w_, ok.K_, ok.mg_, ok.base_⟩ : X.prog = P ∧ X.w = w ∧ X.K = K ∧ X.mg = mg ∧ X.base = base)
          exact cpe_getW g1 m1 m2 m3 (go h8) (go h9) g2 h5 h6 h7
        · cases h
      | mt m o es =>
        simp only [chkE] at h
        split at h
        · simp only [Bool.and_eq_true, decide_eq_true_eq] at h
          obtain ⟨⟨⟨⟨⟨h1, h2⟩, h3⟩, h4⟩, h5⟩, h6⟩ := h
          subst h1
          obtain ⟨A, A1, A2, A3⟩ := snd_args ok tk ihE h4
          have hl : ∀ {j : Nat}, miA m j = true → j < 30 := fun {j} z => by
            cases m <;> (simp only [miA, beq_iff_eq] at z; omega)
          have hl' := hl h2
          cases m with
          | append => exact cpe_mt PySem.F.plainAttrs_list PySem.F.slot_list_append PySem.F.type_list_append mt_append lk_append lkTy_lst (go h3) A A3 A1 hl' h5 h6
          | extend => exact cpe_mt PySem.F.plainAttrs_list PySem.F.slot_list_extend PySem.F.type_list_extend (MtR.or mt_extend mt_extendT) lk_extendA lkTy_lst (go h3) A A3 A1 hl' h5 h6
          | pop => exact cpe_mt PySem.F.plainAttrs_list PySem.F.slot_list_pop PySem.F.type_list_pop mt_pop lk_pop lkTy_lst (go h3) A A3 A1 hl' h5 h6
          | popAt => exact cpe_mt PySem.F.plainAttrs_list PySem.F.slot_list_pop PySem.F.type_list_pop mt_popAt lk_popAt lkTy_lst (go h3) A A3 A1 hl' h5 h6
          | join => exact cpe_mt PySem.F.plainAttrs_str PySem.F.slot_str_join PySem.F.type_str_join mt_join lk_join lkTy_str (go h3) A A3 A1 hl' h5 h6
        · cases h
      | lam g c =>
        simp only [chkE] at h
        split at h
        · rename_i x p params body scope lpos pos
          simp only [Bool.and_eq_true, decide_eq_true_eq] at h
          obtain ⟨⟨⟨⟨⟨⟨h1, h2⟩, h3⟩, h4⟩, h5⟩, h6⟩, h7⟩ := h
          obtain ⟨g1, g2⟩ := glN_ok ok.sc_ h1
          obtain ⟨j, hj⟩ := Option.isSome_iff_exists.mp h3
          obtain ⟨r, r1, r2⟩ := F.lamS _ _ hj
          have hr := List.mem_of_getElem? r1
          obtain ⟨t2, t3, t4⟩ := ok.tab r hr r2
          have L := LamX.lamS_by h4
          have hnl := noLam F h6
          have ea := noArgs_eq h5
          subst ea
          rcases F.lam with z | ⟨m, em, FB, D⟩
          · exact ⟨fun pins s σ H Q I ⟨σc, C, Qc, S, hh, hE⟩ => (z _ _ _ _ _ _ (hh s.heap.objs.size (free_of S.r (I.hok.fresh (Nat.le_refl _))))).elim⟩
          obtain ⟨a, m1, m2, m3⟩ := D _ _ h2
          refine cpe_lam (r := r) (m := m) g1 (by rw [ok.mg_]; exact m1) (by rw [ok.K_]; exact m2) (by rw [ok.P_, ok.w_, ok.K_, ok.mg_, ok.base_]; exact m3) t3 t2 t4 hr (F.lamU r hr) (em ▸ ok.room) ok.gd (by rw [ok.sc_]; exact L) rfl (fun _ _ _ _ _ => rfl) (by rw [ok.K_]; exact tk) (fun A outer s H E f c' H0' C0' ex' hrm hgd tkL => ?_) g2
          exact (chk_soundG fuel FB.low scope _ _).1 h7 false (LamX.lamCx X A outer s H E scope f c') H0' C0' ex' ⟨ok.P_, ok.w_, ok.K_, ok.mg_, ok.base_, ok.N_, ok.nd, rfl, L.kind, rfl, hrm, fun z => (nomatch z), passes_of rfl, hgd, fun z => (nomatch z), fun r hr e => absurd e (hnl r hr)⟩ (by rw [← ok.K_]; exact tkL)
        · cases h
      | lc c T' vs k it ifs =>
        simp only [chkE] at h
        split at h
        · simp only [Bool.and_eq_true, decide_eq_true_eq] at h
          obtain ⟨⟨⟨⟨⟨⟨⟨⟨⟨h1, h2⟩, h3⟩, h4⟩, h5⟩, h6⟩, h7⟩, h8⟩, h9⟩, h10⟩ := h
          subst h1
          have hnl := noLam F h10
          rename_i elt tg iter ifs' scope pos
          obtain ⟨I1, I2⟩ := snd_it (tg := tg) F ok tk ihE h6
          have hk : scope.kind = .function := by
            unfold blkC at h2
            simp only [Bool.and_eq_true] at h2
            have := h2.1.1.1
            split at this
            · assumption
            · cases this
          have ev : ((tgNs tg).zip T'.slots).map (·.2) = T'.slots := by
            rw [List.map_snd_zip]
            omega
          have q := cpe_lc (X := X) (cl := cl) (H0 := H0) (C0 := C0) (pos := pos) (own := (tgNs tg).zip T'.slots) (T := T') (scope := scope) ok.calm (by rw [ok.N_]; exact ok.nd) I1 (by rw [ok.N_, ok.sc_]; exact blkOk_by h2) (by rw [ev]; exact fun i hi => hi)
            (fun s H C cs fp => by rw [ok.K_]; exact blk_tg ok h5) (fun s H C cs fp => snd_ifs (blk_ok ok hk hnl) takes_bot (fun e c => (chk_soundG fuel F (relS scope sc) e c).2) h7)
            (fun s H C cs fp => (chk_soundG fuel F (relS scope sc) _ _).1 h8 _ _ H0 C0 _ (blk_ok ok hk hnl) takes_bot) (notSet_fold h9)
          rw [ev] at q
          rw [h3]
          exact q
        · cases h
    · have go : ∀ {e c}, chkE T N fuel sc e c = true → CPE X cl H0 C0 e (rdE G ex c) := fun h => ihE _ _ h top X H0 C0 ex ok tk
      have goT : ∀ {e c}, chkT T N fuel sc e c = true → CPT X cl H0 C0 e (rdT G ex c) := fun h => ihT _ _ h top X H0 C0 ex ok tk
      cases c with
      | and a b =>
        simp only [chkT] at h
        split at h
        · exact (snd_boolT_and ok tk (fun e c h => ihT e c h) h).pt
        · cases h
      | or a b =>
        simp only [chkT] at h
        split at h
        · exact (snd_boolT_or ok tk (fun e c h => ihT e c h) h).pt
        · cases h
      | not a =>
        simp only [chkT] at h
        split at h
        · exact cpt_not (goT h)
        · cases h
      | cmp o a b =>
        simp only [chkT] at h
        split at h
        · simp only [Bool.and_eq_true, decide_eq_true_eq] at h
          obtain ⟨⟨⟨h1, h2⟩, h3⟩, h4⟩ := h
          subst h1
          obtain ⟨r, r1, r2⟩ := semC_ok (cl := cl) (by rw [F.clP, ok.P_]) (by rw [F.clw, ok.w_]) F.lv ok.room o
          exact cpt_cmp r1 r2 (go h3) (go h4) (notSet_mark h2)
        · cases h
      | gin x tab a =>
        simp only [chkT] at h
        split at h
        · simp only [Bool.and_eq_true, decide_eq_true_eq] at h
          obtain ⟨⟨⟨h1, h2⟩, h3⟩, h4⟩ := h
          subst h1
          obtain ⟨g1, g2⟩ := glN_ok ok.sc_ h2
          obtain ⟨p, m1, m2, m3⟩ := F.gdc _ _ h3
          obtain ⟨rfl, rfl, rfl, rfl, rfl⟩ := (⟨ok.P_, ok.w_, ok.K_, ok.mg_, ok.base_⟩ : X.prog = P ∧ X.w = w ∧ X.K = K ∧ X.mg = mg ∧ X.base = base)
          exact cpt_gin g1 m1 m2 (go h4) g2
        · cases h
      | chain o o' a b c =>
        simp only [chkT] at h
        split at h
        · simp only [Bool.and_eq_true, decide_eq_true_eq] at h
          obtain ⟨⟨⟨⟨⟨h1, h1'⟩, h2⟩, h3⟩, h4⟩, h5⟩ := h
          subst h1; subst h1'
          obtain ⟨r, r1, r2⟩ := semC_ok (cl := cl) (by rw [F.clP, ok.P_]) (by rw [F.clw, ok.w_]) F.lv ok.room o
          obtain ⟨r', r1', r2'⟩ := semC_ok (cl := cl) (by rw [F.clP, ok.P_]) (by rw [F.clw, ok.w_]) F.lv ok.room o'
          exact cpt_chain r1 r1' r2 r2' (go h3) (go h4) (go h5) (notSet_mark h2)
        · cases h
      | _ =>
        simp only [chkT, Bool.and_eq_true] at h
        exact cpt_val (go h.2) (plain_of h.1)
theorem chk_sound (F : Facts T P w K mg base cl G n) : ∀ fuel sc e c, (chkE T N fuel sc e c = true → SndE P w K mg base cl G n N sc e c) ∧ (chkT T N fuel sc e c = true → SndT P w K mg base cl G n N sc e c) := fun fuel sc e c => chk_soundG fuel F sc e c
noncomputable def SndS (P : Program) (w : World) (K : PySem.W.Frag) (mg : Str → Option Value) (base : Heap) (cl : ClsT) (G : G3) (n : Nat) (N : List Str) (sc : Scope) (s : Stmt) (c : CS) : Prop :=
  ∀ X H0 C0 ex, XOk P w K mg base cl.tb n N sc true X → Takes X (WC K cl H0 C0 ex) → CPS X cl H0 C0 s (rdS G ex c)
theorem snd_ss {sc : Scope} {X : Cx} {H0 : Hp} {C0 : CH} {ex : Kxs} {f : Stmt → CS → Bool} (hf : ∀ s c, f s c = true → CPS X cl H0 C0 s (rdS G ex c)) : ∀ {ss : List Stmt} {cs : List CS}, chkSs f ss cs = true → CPSs X cl H0 C0 ss (rdSs G ex cs)
  | [], [], _ => cpss_nil
  | s :: ss, c :: cs, h => by
    simp only [chkSs, Bool.and_eq_true] at h
    exact cpss_cons (hf _ _ h.1) (snd_ss (sc := sc) hf h.2)
  | [], _ :: _, h => by simp [chkSs] at h
  | _ :: _, [], h => by simp [chkSs] at h
theorem top_tg {X : Cx} {sc : Scope} (ok : XOk P w K mg base cl.tb n N sc true X) {tg : Expr} {T' : CT} (h : tgC N sc tg T' = true) : PG X tg (tgV X.K T') ∧ (assignEach [tg] X.env).map (·.2) = [assign tg X.env] := by
  have one : ∀ x i, nmL N sc x i = true → X.N[i]? = some x ∧ L2.Loc X.env.scope x ∧ (X.fn x = true ∨ X.env.scope.names.lookup x = some .local) := fun x i hx => by
    obtain ⟨h1, h2⟩ := nmL_ok hx
    rw [ok.N_, ok.sc_]
    exact ⟨h1, h2, ok.loc rfl x h2⟩
  have nd : X.N.Nodup := by rw [ok.N_]; exact ok.nd
  cases T' with
  | nm i =>
    unfold tgC at h
    simp only at h
    split at h
    · obtain ⟨a, b, c⟩ := one _ _ h
      exact ⟨pg_name nd a b c, rfl⟩
    · cases h
  | tp is =>
    unfold tgC at h
    simp only at h
    split at h
    · rename_i xs k p
      simp only [Bool.and_eq_true, decide_eq_true_eq, List.all_eq_true] at h
      obtain ⟨hl, ha⟩ := h
      have len : ∀ (es : List Expr) (env : Env), (assignEach es env).length = es.length := fun es env => by
        induction es with
        | nil => rfl
        | cons e es ih => cases e <;> exact congrArg (· + 1) ih
      have names : ∀ e ∈ xs, ∃ x p, e = .Name x p := fun e he => by
        obtain ⟨j, hj, ej⟩ := List.getElem_of_mem he
        have := ha (e, is[j]'(by omega)) (by rw [← ej]; exact List.mem_of_getElem? (i := j) (by rw [List.getElem?_zip_eq_some]; exact ⟨List.getElem?_eq_getElem hj, List.getElem?_eq_getElem (by omega)⟩))
        cases e <;> first | exact ⟨_, _, rfl⟩ | (simp at this)
      have nostar : ∀ (es : List Expr) (env : Env), (∀ e ∈ es, ∃ x p, e = Expr.Name x p) → (assignEach es env).findIdx? (·.1) = none := fun es env => by
        induction es with
        | nil => intro _; rfl
        | cons e es ih =>
          intro hn
          obtain ⟨x, p, rfl⟩ := hn e List.mem_cons_self
          show List.findIdx? (·.1) ((false, _) :: assignEach es env) = none
          rw [List.findIdx?_cons]
          simp [ih fun e he => hn e (List.mem_cons_of_mem _ he)]
      have all := pgs_all (X := X) nd hl fun j e i a b => by
        have := ha (e, i) (List.mem_of_getElem? (i := j) (by rw [List.getElem?_zip_eq_some]; exact ⟨a, b⟩))
        cases e <;> first | (obtain ⟨a1, a2, a3⟩ := one _ _ this; exact ⟨_, _, rfl, a1, a2, a3⟩) | (simp at this)
      exact ⟨pg_tup (X := X) (k := k) (pos := p) (n := is.length) ok.calm all (by rw [len]; exact hl) (nostar _ _ names), rfl⟩
    · cases h
theorem sole_sub {x y e : Expr} {p : Pos} {l : Nat} {env : Env} : swapsWithSole [.Subscript x y p] e l env = pure false := by
  cases e <;> rfl
theorem sole_none {tg e : Expr} {l : Nat} {env : Env} (h : notComp e = true) : swapsWithSole [tg] e l env = pure false := swap_none h
theorem swapped_none {tg e : Expr} {env : Env} (h : (match e with | .Tuple .. => false | _ => true) = true) : swappedStores [tg] e env = pure none := by
  unfold swappedStores
  cases tg <;> first | rfl | (cases e <;> first | rfl | (cases h; done))
theorem filterMap_lt {α β : Type} (f : α → Option β) : ∀ {xs : List α} {x : α}, x ∈ xs → f x = none → (xs.filterMap f).length < xs.length
  | y :: ys, x, hm, hf => by
    have hle := List.length_filterMap_le f ys
    rcases List.mem_cons.mp hm with e | hm
    · subst e
      rw [List.filterMap_cons, hf]
      show (ys.filterMap f).length < ys.length + 1
      omega
    · have := filterMap_lt f hm hf
      rw [List.filterMap_cons]
      cases f y with
      | none => show (ys.filterMap f).length < ys.length + 1; omega
      | some z => show (ys.filterMap f).length + 1 < ys.length + 1; omega
theorem swapped_none2 {xs : List Expr} {k : Nat} {tp : Pos} {e : Expr} {env : Env} (h : (match e with | .Tuple vs _ _ => decide (4 ≤ xs.length) || xs.any (fun z => match z with | .Name y _ => !decide (env.scope.names.lookup y = some .local) | _ => false) || vs.all (foldedForSure 8) | _ => true) = true) : swappedStores [.Tuple xs k tp] e env = pure none := by
  cases e with
  | Tuple es k2 p2 =>
    simp only [Bool.or_eq_true, decide_eq_true_eq, List.any_eq_true] at h
    unfold swappedStores
    simp only
    by_cases c1 : (!(xs.length == 2 || xs.length == 3) || es.length != xs.length || env.blockKind != .function) = true
    · rw [if_pos c1]
    · rw [if_neg c1]
      by_cases c2 : (es.any fun x => match x with | .Starred .. => true | _ => false) = true
      · exact if_pos c2
      · refine (if_neg c2).trans ?_
        rcases h with (h | ⟨z, hz, h⟩) | h
        · exfalso
          apply c1
          have a1 : (xs.length == 2) = false := by simpa using (by omega : xs.length ≠ 2)
          have a2 : (xs.length == 3) = false := by simpa using (by omega : xs.length ≠ 3)
          rw [a1, a2]
          rfl
        · refine if_pos ?_
          rw [Bool.or_eq_true]
          left
          have := filterMap_lt (fun x => match x with
            | .Name id pos => if (env.kindOf id == some NameKind.local && pos.line == (Option.map (fun x => x.pos.line) xs.head?).getD 0) = true then some id else none
            | _ => none) hz (by
              cases z with
              | Name y p =>
                simp only [Bool.not_eq_true', decide_eq_false_iff_not] at h
                have q : (env.kindOf y == some NameKind.local) = false := by
                  cases q : env.kindOf y == some NameKind.local with
                  | false => rfl
                  | true => exact absurd (show env.scope.names.lookup y = some .local from eq_of_beq q) h
                simp [q]
              | _ => cases h)
          exact bne_iff_ne.mpr (Nat.ne_of_lt this)
        · generalize (List.filterMap _ xs) = ns
          by_cases c3 : (ns.length != xs.length || ns.eraseDups.length != ns.length) = true
          · exact if_pos c3
          · exact (if_neg c3).trans (if_pos h)
  | _ => exact swapped_none rfl
theorem swapped_three {env : Env} {x y z : Str} {px py pz pt : Pos} {kt k2 : Nat} {pt2 : Pos} {a b c : Expr} (hk : env.scope.kind = .function) (hx : env.scope.names.lookup x = some .local) (hy : env.scope.names.lookup y = some .local) (hz : env.scope.names.lookup z = some .local) (ha : notStar a = true) (hb : notStar b = true) (hcc : notStar c = true) (hl : (px.line == py.line) = true) (hl3 : (px.line == pz.line) = true) (hne : x ≠ y) (hne2 : x ≠ z) (hne3 : y ≠ z)
    (hf : (foldedForSure 8 a && (foldedForSure 8 b && foldedForSure 8 c)) = false) (hc : (constantsAlone 8 a && (constantsAlone 8 b && constantsAlone 8 c)) = false) : swappedStores [.Tuple [.Name x px, .Name y py, .Name z pz] kt pt] (.Tuple [a, b, c] k2 pt2) env = pure (some [x, y, z]) := by
  have hb' : (env.blockKind != .function) = false := by unfold Env.blockKind; rw [hk]; rfl
  have kx : (env.kindOf x == some .local) = true := by rw [show env.kindOf x = some .local from hx]; rfl
  have ky : (env.kindOf y == some .local) = true := by rw [show env.kindOf y = some .local from hy]; rfl
  have kz : (env.kindOf z == some .local) = true := by rw [show env.kindOf z = some .local from hz]; rfl
  have hxy : (x == y) = false := by simpa using hne
  have hyx : (y == x) = false := by simpa using hne.symm
  have hxz : (x == z) = false := by simpa using hne2
  have hzx : (z == x) = false := by simpa using hne2.symm
  have hyz : (y == z) = false := by simpa using hne3
  have hzy : (z == y) = false := by simpa using hne3.symm
  have hl2 : (py.line == px.line) = true := by
    have := eq_of_beq hl
    rw [this]; simp
  have hl4 : (pz.line == px.line) = true := by
    have := eq_of_beq hl3
    rw [this]; simp
  have hdup : ([x, y, z].eraseDups).length = 3 := by
    simp [List.eraseDups, List.eraseDupsBy, List.eraseDupsBy.loop, hxy, hyx, hxz, hzx, hyz, hzy]
  unfold swappedStores
  simp only [hb', kx, ky, kz, hl2, hl4, List.length_cons, List.length_nil, List.all_cons, List.all_nil, Bool.and_true, hf, hc, List.head?_cons, Option.map_some, Option.getD_some, Expr.pos, List.filterMap_cons, List.filterMap_nil, beq_self_eq_true, Bool.true_and, if_true]
  simp only [hdup, bne_self_eq_false, Bool.false_eq_true, if_false, Bool.or_self, Bool.not_true, beq_self_eq_true]
  simp
  intro hh
  exfalso
  rcases hh with hh | hh | hh
  · cases a <;> first | (cases ha; done) | (cases hh; done)
  · cases b <;> first | (cases hb; done) | (cases hh; done)
  · cases c <;> first | (cases hcc; done) | (cases hh; done)
theorem cps_setT {X : Cx} {H0 : Hp} {C0 : CH} {i : Nat} {x : Str} {e : Expr} {ca : CTE} {pos pos' : Pos} (hN : X.N.Nodup) (hi : X.N[i]? = some x) (hx : L2.Loc X.env.scope x) (he : CPE X cl H0 C0 e ca) (hs : swapsWith e (some (.Name x pos')) pos.line X.env = pure false) (hf : X.fn x = true ∨ X.env.scope.names.lookup x = some .local) :
    CPS X cl H0 C0 (.Assign [.Name x pos'] e pos) (sAsg ca (hT (.nm i))) :=
  (ps_set hN hi hx he hs hf).imp fun D σ H ⟨σc, C, Dc, S, h, hq⟩ => ⟨σc, C, _, S, h, fun d C1 v H1 ⟨σ', e1, h1⟩ rv R1 k1 => by
    cases e1
    exact hq.nx _ _ _ _ h1 ((S.s.keep S.r k1).set rv i) R1 k1⟩
theorem swap_cell {x : Str} {p : Pos} {elt : Expr} {gs : List Comprehension} {scope : Scope} {pos : Pos} {l : Nat} {env : Env} (h : ¬ env.scope.names.lookup x = some .local) : swapsWith (.ListComp elt gs scope pos) (some (.Name x p)) l env = pure false := by
  have e : (env.kindOf x == some .local) = false := by
    cases q : env.kindOf x == some NameKind.local with
    | false => rfl
    | true => exact absurd (show env.scope.names.lookup x = some .local from eq_of_beq q) h
  unfold swapsWith
  simp only [e, Bool.and_false, Bool.false_and]
theorem swapped_none_s {o i e : Expr} {p : Pos} {env : Env} : swappedStores [.Subscript o i p] e env = pure none := by
  unfold swappedStores
  cases e <;> rfl
theorem PSet.or {X : Cx} {r r' : TSet} (h : PSet X r) (h' : PSet X r') : PSet X (fun o i v H Q => r o i v H Q ∨ r' o i v H Q) := fun pins s σ H o i v ov iv u Q I ro ri rv q =>
  q.elim (fun q => h pins s σ H o i v ov iv u Q I ro ri rv q) fun q => h' pins s σ H o i v ov iv u Q I ro ri rv q
theorem LkSet.or {r r' : TSet} {f f' : O3} (h : LkSet K cl r f) (h' : LkSet K cl r' f') : LkSet K cl (fun o i v H Q => r o i v H Q ∨ r' o i v H Q) (fun x y z C Q => f x y z C Q ∨ f' x y z C Q) := fun H C d e z v u w Q Qc rd re rz R q hq =>
  q.elim (fun q => .inl (h H C d e z v u w Q Qc rd re rz R q hq)) fun q => .inr (h' H C d e z v u w Q Qc rd re rz R q hq)
theorem cps_aug {X : Cx} {H0 : Hp} {C0 : CH} {i : Nat} {x : Str} {e : Expr} {op : Operator} {r : TIp} {o : O2} {ca : CTE} {pos pos' : Pos} (hN : X.N.Nodup) (hi : X.N[i]? = some x) (hx : L2.Loc X.env.scope x) (he : CPE X cl H0 C0 e ca) (ho : PIp X op r) (l : Lk2 X.K cl r o) (hf : X.fn x = true ∨ X.env.scope.names.lookup x = some .local) :
    CPS X cl H0 C0 (.AugAssign (.Name x pos') op e pos) (sAug i o ca) :=
  (ps_aug hN hi hx he ho hf).imp fun D σ H ⟨σc, C, Dc, S, ⟨d, e1, h⟩, hq⟩ => by
    obtain ⟨v, e2, rv⟩ := S.s.get e1
    exact ⟨v, e2, σc, C, _, S, h, fun z C1 u H1 h1 ru R1 k1 => l H1 C1 d z v u _ _ (rv.keep S.r k1) ru R1 h1 fun w' C2 wv H2 h2 rw' R2 k2 => hq.nx _ _ _ _ h2 ((((S.s.keep S.r k1)).keep R1 k2).set rw' i) R2 (k1.trans k2)⟩
theorem oAug_ok {X : Cx} (o : OpB) (h : o = .add ∨ o = .sub) : ∃ r, PIp X (opN o) r ∧ Lk2 X.K cl r (oAug o) := by
  rcases h with h | h
  · subst h
    refine ⟨fun x y H Q => ipI (fun i j => i + j) x y H Q ∨ (∃ i j, x = .str i ∧ y = .str j ∧ i.length + j.length ≤ sizeLine ∧ Q (.str (i ++ j)) H), fun pins s σ H x y v u Q I rx ry q => q.elim (fun q => ip_add pins s σ H x y v u Q I rx ry q) fun q => iop_add_str pins s σ H x y v u Q I rx ry q, fun H C d e v u Q Qc rd re R h hq => ?_⟩
    cases d with
    | int i =>
      cases e with
      | int j => cases rd; cases re; exact .inl ⟨i, j, rfl, rfl, hq.now h (.int _) R⟩
      | _ => exact h.elim
    | str i =>
      cases e with
      | str j => cases rd; cases re; exact .inr ⟨i, j, rfl, rfl, h.1, hq.now h.2 (.str _) R⟩
      | _ => exact h.elim
    | _ => exact h.elim
  · subst h
    refine ⟨_, ip_sub, fun H C d e v u Q Qc rd re R h hq => ?_⟩
    cases d with
    | int i =>
      cases e with
      | int j => cases rd; cases re; exact ⟨i, j, rfl, rfl, hq.now h.2 (.int _) R⟩
      | _ => exact h.elim
    | _ => exact h.elim
theorem suite_sound {X : Cx} {sc : Scope} {H0 : Hp} {C0 : CH} (nd : N.Nodup) (hN : X.N = N) (hsc : X.env.scope = sc) {s : Stmt} {c : CS} (h : chkSuite N sc s c = true) : CPS X cl H0 C0 s (rdS G (fun _ _ _ => False) c) := by
  unfold chkSuite at h
  split at h
  · simp only [Bool.and_eq_true, decide_eq_true_eq] at h
    obtain ⟨⟨h1, h2⟩, h3⟩ := h
    split at h1
    · obtain ⟨a1, a2, a3, a4⟩ := nmV_ok h1
      exact cps_setT (by rw [hN]; exact nd) (by rw [hN]; exact h2) (.inl (by rw [hsc]; exact h3)) (cpe_var (by rw [hN]; exact a1) (by rw [hsc]; exact a2) a3 a4) (swap_none rfl) (.inr (by rw [hsc]; exact h3))
    · cases h1
  · simp only [Bool.and_eq_true, decide_eq_true_eq] at h
    obtain ⟨⟨h1, h2⟩, h3⟩ := h
    split at h1
    · exact cps_setT (by rw [hN]; exact nd) (by rw [hN]; exact h2) (.inl (by rw [hsc]; exact h3)) cpe_non (swap_none rfl) (.inr (by rw [hsc]; exact h3))
    · rw [eq_of_beq h1]; exact cps_setT (by rw [hN]; exact nd) (by rw [hN]; exact h2) (.inl (by rw [hsc]; exact h3)) cpe_bl (swap_none rfl) (.inr (by rw [hsc]; exact h3))
    · rw [of_decide_eq_true h1]; exact cps_setT (by rw [hN]; exact nd) (by rw [hN]; exact h2) (.inl (by rw [hsc]; exact h3)) cpe_str (swap_none rfl) (.inr (by rw [hsc]; exact h3))
    · cases h1
  · split at h
    · exact cps_ret cpe_non
    · rw [eq_of_beq h]; exact cps_ret cpe_bl
    · rw [of_decide_eq_true h]; exact cps_ret cpe_str
    · cases h
  · exact cps_pass
  · exact cps_cont
  · cases h
theorem chkS_sound (F : Facts T P w K mg base cl G n) : ∀ fuel sc s c, chkS T N fuel sc s c = true → SndS P w K mg base cl G n N sc s c
  | 0, sc, s, c => fun h => by simp [chkS] at h
  | fuel + 1, sc, s, c => fun h X H0 C0 ex ok tk => by
    have go : ∀ {e c}, chkE T N fuel sc e c = true → CPE X cl H0 C0 e (rdE G ex c) := fun h => (chk_sound F fuel sc _ _).1 h true X H0 C0 ex ok tk
    have goT : ∀ {e c}, chkT T N fuel sc e c = true → CPT X cl H0 C0 e (rdT G ex c) := fun h => (chk_sound F fuel sc _ _).2 h true X H0 C0 ex ok tk
    have ih : ∀ s c, chkS T N fuel sc s c = true → CPS X cl H0 C0 s (rdS G ex c) := fun s c h => chkS_sound F fuel sc s c h X H0 C0 ex ok tk
    have nd : X.N.Nodup := by rw [ok.N_]; exact ok.nd
    cases c with
    | pass => simp only [chkS] at h; split at h <;> first | exact cps_pass | cases h
    | cont => simp only [chkS] at h; split at h <;> first | exact cps_cont | cases h
    | expr c =>
      simp only [chkS] at h
      split at h
      · simp only [Bool.and_eq_true] at h
        exact cps_expr (go h.1) (swap_none h.2)
      · cases h
    | ret c =>
      simp only [chkS] at h
      split at h
      · exact cps_ret (go h)
      · cases h
    | ifS t a b =>
      simp only [chkS] at h
      split at h
      · simp only [Bool.and_eq_true] at h
        obtain ⟨⟨h1, h2⟩, h3⟩ := h
        exact cps_if (goT h1) (snd_ss (sc := sc) ih h2) (snd_ss (sc := sc) ih h3)
      · cases h
    | asg T' c =>
      cases T' with
      | nm i =>
        simp only [chkS] at h
        split at h
        · rename_i x xp e p
          simp only [Bool.and_eq_true, Bool.or_eq_true] at h
          obtain ⟨⟨h1, h2⟩, h3⟩ := h
          obtain ⟨g1, g2⟩ := nmL_ok h1
          have hx : L2.Loc X.env.scope x := by rw [ok.sc_]; exact g2
          have hf : X.fn x = true ∨ X.env.scope.names.lookup x = some .local := by rw [ok.sc_]; exact ok.loc rfl x g2
          have hi : X.N[i]? = some x := by rw [ok.N_]; exact g1
          rcases h3 with h3 | h3
          · exact cps_setT nd hi hx (go h2) (swap_none h3) hf
          · split at h3
            · rename_i elt g0 scope cp
              by_cases hloc : sc.names.lookup x = some .local
              · rw [hloc] at h3
                simp only [Bool.and_eq_true, Bool.not_eq_true'] at h3
                obtain ⟨l1, l2⟩ := h3
                obtain ⟨tg, iter, ifs', asy⟩ := g0
                cases fuel with
                | zero => simp [chkE] at h2
                | succ fuel =>
                  cases c with
                  | lc c T' vs k it ifs =>
                    simp only [chkE, Bool.and_eq_true, decide_eq_true_eq] at h2
                    obtain ⟨⟨⟨⟨⟨⟨⟨⟨⟨h1, h2⟩, h3⟩, h4⟩, h5⟩, h6⟩, h7⟩, h8⟩, h9⟩, h10⟩ := h2
                    subst h1
                    have hnl := noLam F h10
                    obtain ⟨I1, I2⟩ := snd_it (tg := tg) F ok tk (fun e c => (chk_sound F fuel sc e c).1) h6
                    have hk : scope.kind = .function := by
                      unfold blkC at h2
                      simp only [Bool.and_eq_true] at h2
                      have := h2.1.1.1
                      split at this
                      · assumption
                      · cases this
                    have ev : ((tgNs tg).zip T'.slots).map (·.2) = T'.slots := by
                      rw [List.map_snd_zip]
                      omega
                    have q := cps_setLc (X := X) (cl := cl) (H0 := H0) (C0 := C0) (pos := cp) (spos := p) (own := (tgNs tg).zip T'.slots) (T := T') (scope := scope) ok.calm nd hi (by rw [ok.sc_]; exact hloc) (sw_true (by rw [ok.sc_]; exact ok.kind) (by rw [ok.sc_]; exact hloc) l1 l2) I1 (by rw [ok.N_, ok.sc_]; exact blkOk_by h2) (by rw [ev]; exact fun i hi => hi)
                      (fun s H C cs fp => by rw [ok.K_]; exact blk_tg ok h5) (fun s H C cs fp => snd_ifs (blk_ok ok hk hnl) takes_bot (fun e c => (chk_sound F fuel (relS scope sc) e c).2) h7)
                      (fun s H C cs fp => (chk_sound F fuel (relS scope sc) _ _).1 h8 _ _ H0 C0 _ (blk_ok ok hk hnl) takes_bot) (notSet_fold h9)
                    rw [ev] at q
                    rw [h3]
                    exact q
                  | _ => simp [chkE, notComp] at h2
              · exact cps_setT nd hi hx (go h2) (swap_cell (by rw [ok.sc_]; exact hloc)) hf
            · cases h3
        · cases h
      | tp is =>
        simp only [chkS] at h
        split at h
        · simp only [Bool.and_eq_true] at h
          obtain ⟨⟨⟨h1, h2⟩, h3⟩, h4⟩ := h
          obtain ⟨g1, g2⟩ := top_tg ok h1
          exact cps_asg (go h2) (cpg_T g1) (sole_none h3) (swapped_none2 (by rw [ok.sc_]; exact h4)) g2
        · cases h
    | par3 i j l a b c =>
      simp only [chkS] at h
      split at h
      · simp only [Bool.and_eq_true, decide_eq_true_eq, Bool.not_eq_true'] at h
        obtain ⟨⟨⟨⟨⟨⟨⟨⟨⟨⟨⟨⟨⟨⟨⟨⟨⟨⟨⟨⟨⟨h1, h2⟩, h3⟩, e1⟩, e2⟩, e3⟩, l1⟩, l2⟩, l3⟩, c1⟩, c2⟩, c3⟩, s1⟩, s2⟩, s3⟩, p1⟩, p2⟩, f1⟩, f2⟩, n1⟩, n2⟩, n3⟩ := h
        rw [← ok.N_] at h1 h2 h3
        rw [← ok.sc_] at l1 l2 l3
        exact cps_par3 ok.calm nd h1 h2 h3 e1 e2 e3 l1 l2 l3 (cpa_cons (go c1) (cpa_cons (go c2) (cpa_cons (go c3) cpa_nil (star_of s3)) (star_of s2)) (star_of s1)) (swapped_three (by rw [ok.sc_]; exact ok.kind) l1 l2 l3 s1 s2 s3 p1 p2 n1 n2 n3 f1 f2) rfl
      · cases h
    | setI o i c =>
      simp only [chkS] at h
      split at h
      · rename_i xo yi ps es pp
        simp only [Bool.and_eq_true] at h
        obtain ⟨⟨⟨h1, h2⟩, h3⟩, h5⟩ := h
        exact cps_sub (go h1) (go h2) (go h3) (PSet.or set_list (set_dict (hu_of ok.room))) (LkSet.or lk_setL lk_setD) (fun v => by cases yi <;> first | rfl | (cases h5; done)) sole_sub (swapped_none_s) rfl
      · cases h
    | never => exact cps_never
    | augN i o c =>
      simp only [chkS] at h
      split at h
      · simp only [Bool.and_eq_true, decide_eq_true_eq, Bool.or_eq_true] at h
        obtain ⟨⟨⟨h1, h2⟩, h3⟩, h4⟩ := h
        subst h2
        obtain ⟨g1, g2⟩ := nmL_ok h1
        obtain ⟨r, r1, r2⟩ := oAug_ok (X := X) (cl := cl) o h3
        exact cps_aug nd (by rw [ok.N_]; exact g1) (by rw [ok.sc_]; exact g2) (go h4) r1 r2 (by rw [ok.sc_]; exact ok.loc rfl _ g2)
      · cases h
    | forS T' k it body =>
      simp only [chkS] at h
      split at h
      · simp only [Bool.and_eq_true] at h
        obtain ⟨⟨⟨h1, h2⟩, h3⟩, h4⟩ := h
        obtain ⟨g1, g2⟩ := top_tg ok h1
        exact cps_for ok.po ok.calm (snd_it F ok tk (fun e c => (chk_sound F fuel sc e c).1) h2).1 (cpg_T g1) (snd_ss (sc := sc) ih h4) (notSet_fold h3)
      · cases h
    | whileS t body =>
      simp only [chkS] at h
      split at h
      · simp only [Bool.and_eq_true] at h
        exact cps_while ok.po (goT h.1) (snd_ss (sc := sc) ih h.2)
      · cases h
    | raise c =>
      simp only [chkS] at h
      split at h
      · simp only [Bool.and_eq_true, decide_eq_true_eq] at h
        obtain ⟨⟨h1, h2⟩, h3⟩ := h
        obtain ⟨g1, g2⟩ := glN_ok ok.sc_ h1
        obtain ⟨Ca, c1, c2⟩ := F.cls _ _ h2
        obtain ⟨e1, e2, e3, e4⟩ := F.exc c Ca h3 c1
        rw [← ok.K_] at e1 e2 e3 e4
        rw [← ok.mg_] at c2
        exact cps_raise c1 PySem.F.excBase_ValueError e1 c2 e2 (raises_own e3 e4) g1 g2 ok.calm (by rw [ok.K_]; exact tk)
      · cases h
    | tryS cs body suite =>
      simp only [chkS] at h
      split at h
      · simp only [Bool.and_eq_true] at h
        obtain ⟨⟨⟨h1, h2⟩, h3⟩, h4⟩ := h
        obtain ⟨g1, g2⟩ := glN_ok ok.sc_ h1
        obtain ⟨c, c1, c2⟩ := F.tch _ _ h2
        obtain ⟨f1, f2⟩ := ok.fr rfl
        rw [← ok.mg_] at c1
        refine cps_try (b := fun ex' => rdSs G ex' body) f1 f2 ⟨g1, g2, c1⟩ (by rw [ok.K_]; exact c2) (by rw [ok.K_]; exact tk) (fun pn xe ex' H1 C1 tk' po => ?_) fun a oe pn => ?_
        · have ok' : XOk P w K mg base cl.tb n N sc true (X.tr pn xe) := ⟨ok.P_, ok.w_, ok.K_, ok.mg_, ok.base_, ok.N_, ok.nd, ok.sc_, ok.kind, ok.calm, ok.room, ok.loc, po, ok.gd, ok.fr, ok.tab⟩
          exact snd_ss (sc := sc) (fun s c h => chkS_sound F fuel sc s c h _ H1 C1 ex' ok' (by rw [← ok.K_]; exact tk')) h3
        · exact snd_ss (X := X.suite a ((a, oe) :: pn)) (sc := sc) (fun s c h => suite_sound (X := X.suite a ((a, oe) :: pn)) ok.nd ok.N_ ok.sc_ h) h4
      · cases h
    | tryK cs i body suite rest t ie => simp [chkS] at h
    | tryL cs i lf suite rest is => simp [chkS] at h
end
end L3
namespace L3
open PySem L2
theorem anyKit_at {K : PySem.W.Frag} {cl : ClsT} {kit : String ⊕ Nat → String ⊕ Nat → Option Bool} {t : String ⊕ Nat} {vt : Value} (hk : ∀ u b, kit t u = some b → ∃ vu, tyVal cl u = some vu ∧ PySem.W.kitOne K vt vu = some b) : ∀ {us : List (String ⊕ Nat)} {ws : List Value} {b : Bool}, us.map (tyVal cl) = ws.map some → anyKit kit t us = some b → PySem.W.kitAny K vt ws = some b
  | [], [], b, _, h => by cases h; exact kitAny_nil
  | [], _ :: _, _, e, _ => by cases e
  | _ :: _, [], _, e, _ => by cases e
  | u :: us, w :: ws, b, e, h => by
    rw [List.map_cons, List.map_cons] at e
    injection e with e1 e2
    unfold anyKit at h
    cases q : kit t u with
    | none => rw [q] at h; cases h
    | some c =>
      rw [q] at h
      obtain ⟨vu, h1, h2⟩ := hk u c q
      rw [e1] at h1
      cases h1
      cases c with
      | true => cases h; exact kitAny_cons h2 (fun z => by cases z) fun _ => rfl
      | false => exact kitAny_cons h2 (fun _ => anyKit_at hk e2 h) fun z => by cases z
section
variable {X : Cx} {cl : ClsT} {H0 : Hp} {C0 : CH}
noncomputable def rIsPT (K : PySem.W.Frag) (Da a : Addr) : List V → Hp → VK → Prop := fun xs H Q =>
  ∃ (tp : Addr) (cs : List V) (us : List Value) (b : Bool), xs = [.ref a, .ref tp] ∧ H tp = some (.tup cs) ∧ Paired ClsV cs us ∧ PySem.W.kitAny K (.ref Da) us = some b ∧ Q (.bl b) H
theorem call_isPT {a Da : Addr} {oe : Obj} (hp : (a, oe) ∈ X.pn) (C : ExcC X.K Da) (hz : Zc (.ref Da) none oe) (hf : ∃ vs, oe.data = .fields vs) : CallR X (.builtin "isinstance") (rIsPT X.K Da a) := by
  intro pins s σ H xs us Q I r ⟨tp, cs, ws, b, ex, hT, k, e, q⟩
  subst ex
  obtain ⟨u1, u2, rfl, r1, r2⟩ := vals2 r
  cases (show u2 = Value.ref tp from r2)
  cases (show u1 = Value.ref a from r1)
  have at_ := (I.pin (a, oe) (List.mem_append_left _ hp)).1
  obtain ⟨vs, hv⟩ := hf
  have J : PySem.W.InstAt s.heap a oe Da none := by
    obtain ⟨k1, k2, k3, k4⟩ := oe
    obtain ⟨h1, h2⟩ := hz
    dsimp only at h1 h2 hv
    subst h1 h2 hv
    exact ⟨at_, rfl, rfl, trivial⟩
  obtain ⟨_, its, rv, o, h1, h2, n, h3⟩ := (show ObjOk X.prog X.w H s.heap tp (.tup cs) from I.hok tp _ hT)
  have e3 := ClsV.all k rv
  subst e3
  obtain ⟨oc, od, dt, sl⟩ := o
  simp only at h2 h3
  subst h2 h3
  exact PySem.W.kia_tup (PySem.W.handS_kitx_exc C.hg C.hk C.hs C.hd C.ha C.hn C.ht C.hm) I.kIn J h1 e
    (fun z => nomatch z) fun tk => ⟨.bl b, H, I.kept (t' := tk) fun _ _ z => z, rfl, q⟩
theorem cpe_isxT {ans : List (Nat × Bool)} {us : List (String ⊕ Nat)} {e : Expr} {zs : List Expr} {p tp pos : Pos} {kk : Nat} {vs : List V} {ws : List Value} {kit : String ⊕ Nat → String ⊕ Nat → Option Bool} {j : Nat} {a Da : Addr} {cc : Nat} {oe : Obj} (hans : ∀ b, ans.lookup cc = some b → anyKit kit (.inr cc) us = some b)
    (hkit : ∀ u b, kit (.inr cc) u = some b → ∃ vu, tyVal cl u = some vu ∧ PySem.W.kitOne X.K (.ref Da) vu = some b)
    (hp : (a, oe) ∈ X.pn) (C : ExcC X.K Da) (hz : Zc (.ref Da) none oe) (hfl : ∃ vs, oe.data = .fields vs) (he : CPE X cl H0 C0 e (cVar j)) (L : ClsL X cl zs us vs ws) (hl : zs.length ≤ 30) (hg : Gl X "isinstance") (hm : X.mg "isinstance" = none)
    (h1 : notStar e = true) : CPE X cl H0 C0 (.Call (.Name "isinstance" p) [e, .Tuple zs kk tp] [] pos) (cIsx ans j a cc) :=
  (pe_callB (call_isPT hp C hz hfl) hg hm (by decide +kernel) (pa_cons he (pa_cons (pe_tup L.pa) pa_nil (star_of rfl)) (star_of h1)) (by decide) (by decide) (star_of h1) (star_any (by simp [notStar, h1]))).imp fun σ H Q ⟨σc, C1, Qc, S, ⟨ha, b, hb, q⟩, hq⟩ =>
    ⟨σc, C1, fun d C2 => d = .ref a ∧ C2 = C1, S, ⟨_, ha, rfl, rfl⟩, fun d C2 v H1 ⟨hd, hC⟩ rv R1 k1 => by
      subst hd; subst hC
      cases rv
      refine ⟨by rw [L.len]; exact Nat.le_trans hl (by decide), fun q1 hq1 => ?_⟩
      have R2 := R1.newH hq1 (.tup vs)
      have k2 := keep_newH hq1 (.tup vs) R1
      exact ⟨q1, vs, ws, b, rfl, upd_same, L.paired, anyKit_at hkit L.maps (hans b hb), ((hq.from_ k1).from_ k2).now q (.bl b) R2⟩⟩
end
end L3
namespace L3
open PySem L2
section
variable {P : Program} {w : World} {K : PySem.W.Frag} {mg : Str → Option Value} {base : Heap} {cl : ClsT} {G : G3} {n : Nat} {N : List Str} {T : Tab} {sc : Scope}
theorem XOk.pin {top : Bool} {X : Cx} (ok : XOk P w K mg base cl.tb n N sc top X) (a : Addr) (oe : Obj) : XOk P w K mg base cl.tb n N sc top (pinX X a oe) :=
  ⟨ok.P_, ok.w_, ok.K_, ok.mg_, ok.base_, ok.N_, ok.nd, ok.sc_, ok.kind, ok.calm, ok.room, ok.loc, ok.po, ok.gd, ok.fr, ok.tab⟩
theorem takes_pin {X : Cx} {W : WX} (t : Takes X W) (a : Addr) (oe : Obj) : Takes (pinX X a oe) W := fun u s' ⟨a', B, sI, pins, σ, H, cls, d, e, I, r⟩ =>
  t u s' ⟨a', B, sI, pins, σ, H, cls, d, e, unpin (⟨I.ok.mod, I.ok.kind, I.ok.glob, I.ok.blt, I.ok.above, I.ok.inj, I.ok.has, I.ok.cab, I.ok.hd, I.ok.frames, I.ok.stk, I.ok.exf, I.ok.bs, I.ok.bsz, I.ok.noex, I.ok.exfs, I.ok.funs, I.ok.frf⟩ : X.Ok) I, r⟩
theorem cpss_one {X : Cx} {H0 : Hp} {C0 : CH} {s : Stmt} {c : CTS} (h : CPS X cl H0 C0 s c) : CPSs X cl H0 C0 [s] c := pss_one h
theorem cpss_false {X : Cx} {H0 : Hp} {C0 : CH} (ss : List Stmt) : CPSs X cl H0 C0 ss (fun _ _ _ => False) := ⟨fun pins s σ H D I ⟨σc, C, Dc, S, h, hq⟩ => h.elim⟩
theorem lookup_memx : ∀ {ans : List (Nat × Bool)} {c : Nat} {b : Bool}, ans.lookup c = some b → (c, b) ∈ ans
  | (d, e) :: r, c, b, h => by
    rw [List.lookup_cons] at h
    split at h
    · rename_i q
      cases h
      rw [beq_iff_eq.mp q]
      exact List.mem_cons_self
    · exact List.mem_cons_of_mem _ (lookup_memx h)
section
variable (F : Facts T P w K mg base cl G n)
include F
theorem isx_sound {X : Cx} {H0 : Hp} {C0 : CH} {ex : Kxs} (ok : XOk P w K mg base cl.tb n N sc true X) {a cc : Nat} {oe : Obj} {Ca : Addr} (hcc : cl cc = some Ca) (hx : T.xcl cc = true) (hp : (a, oe) ∈ X.pn) (hz : Zc (.ref Ca) none oe) (hf : ∃ vs, oe.data = .fields vs) {e : Expr} {ans : List (Nat × Bool)} {u : String ⊕ Nat} {j : Nat} (h : chkIsx T N sc e ans u j = true) :
    CPE X cl H0 C0 e (cIsx ans j a cc) := by
  unfold chkIsx at h
  split at h
  · rename_i x p0 m pm z pos0
    simp only [Bool.and_eq_true, decide_eq_true_eq] at h
    obtain ⟨⟨⟨⟨⟨h0, h1⟩, h2⟩, h3⟩, h4⟩, h5⟩ := h
    subst h1
    obtain ⟨g1, g2⟩ := glN_ok ok.sc_ h2
    have hm := F.blt _ h3
    rw [← ok.mg_] at hm
    obtain ⟨n1, n2, n3, n4⟩ := nmV_ok h4
    have he : CPE X cl H0 C0 (.Name m pm) (cVar j) := cpe_var (by rw [ok.N_]; exact n1) (by rw [ok.sc_]; exact n2) n3 n4
    have hE := F.xcl cc Ca hx hcc
    have hkit : ∀ b, ans.lookup cc = some b → ∃ vu, tyVal cl u = some vu ∧ PySem.W.kitOne K (.ref Ca) vu = some b := fun b hb => F.xkit cc u b Ca (of_decide_eq_true (List.all_eq_true.mp h0 (cc, b) (lookup_memx hb))) hcc
    unfold isiC at h5
    split at h5
    · rename_i x' p'
      simp only [Bool.and_eq_true] at h5
      obtain ⟨⟨k1, k2⟩, k3⟩ := h5
      obtain ⟨g3, g4⟩ := glN_ok ok.sc_ k1
      obtain ⟨rfl, rfl, rfl, rfl, rfl⟩ := (⟨ok.P_, ok.w_, ok.K_, ok.mg_, ok.base_⟩ : X.prog = P ∧ X.w = w ∧ X.K = K ∧ X.mg = mg ∧ X.base = base)
      split at k3
      · rename_i nm
        simp only [Bool.and_eq_true, decide_eq_true_eq, Bool.not_eq_true', decide_eq_false_iff_not] at k3
        obtain ⟨⟨l1, l2⟩, l3⟩ := k3
        exact cpe_isx (vc := .ty nm) hkit hp hE hz hf he (pe_bltn g3 (F.blt _ l1) l2 rfl l3 g4) (fun w' hw => by cases hw; exact .ty nm) g1 hm rfl k2
      · rename_i kc
        have l1 := of_decide_eq_true k3
        obtain ⟨Cb, c1, c2⟩ := F.cls _ _ l1
        exact cpe_isx (vc := .ref Cb) hkit hp hE hz hf he (pe_glob g3 c2 rfl g4) (fun w' hw => by
          have hw' : (cl kc).map Value.ref = some w' := hw
          rw [c1] at hw'
          cases hw'
          exact .own Cb) g1 hm rfl k2
    · cases h5
  · cases h
theorem isxT_sound {X : Cx} {H0 : Hp} {C0 : CH} {ex : Kxs} (ok : XOk P w K mg base cl.tb n N sc true X) {a cc : Nat} {oe : Obj} {Ca : Addr} (hcc : cl cc = some Ca) (hx : T.xcl cc = true) (hp : (a, oe) ∈ X.pn) (hz : Zc (.ref Ca) none oe) (hf : ∃ vs, oe.data = .fields vs) {e : Expr} {ans : List (Nat × Bool)} {us : List (String ⊕ Nat)} {j : Nat} (h : chkIsxT T N sc e ans us j = true) :
    CPE X cl H0 C0 e (cIsx ans j a cc) := by
  unfold chkIsxT at h
  split at h
  · rename_i x p0 m pm zs kk tp pos0
    simp only [Bool.and_eq_true, decide_eq_true_eq] at h
    obtain ⟨⟨⟨⟨⟨⟨⟨h0, h1⟩, h2⟩, h3⟩, h4⟩, h5⟩, h6⟩, h7⟩ := h
    subst h1
    obtain ⟨g1, g2⟩ := glN_ok ok.sc_ h2
    have hm := F.blt _ h3
    rw [← ok.mg_] at hm
    obtain ⟨n1, n2, n3, n4⟩ := nmV_ok h4
    have he : CPE X cl H0 C0 (.Name m pm) (cVar j) := cpe_var (by rw [ok.N_]; exact n1) (by rw [ok.sc_]; exact n2) n3 n4
    obtain ⟨vs, ws, L⟩ := isiCs_ok F ok h5
    exact cpe_isxT (fun b hb => of_decide_eq_true (List.all_eq_true.mp h0 (cc, b) (lookup_memx hb))) (fun u b hb => by rw [ok.K_]; exact F.xkit cc u b Ca hb hcc) hp (by rw [ok.K_]; exact F.xcl cc Ca hx hcc) hz hf he L h7 g1 hm rfl
  · cases h
theorem chkIT_sound {X : Cx} {H0 : Hp} {C0 : CH} {ex : Kxs} (ok : XOk P w K mg base cl.tb n N sc true X) (tk : Takes X (WC K cl H0 C0 ex)) {a cc : Nat} {oe : Obj} {Ca : Addr} (hcc : cl cc = some Ca) (hx : T.xcl cc = true) (hp : (a, oe) ∈ X.pn) (hz : Zc (.ref Ca) none oe) (hf : ∃ vs, oe.data = .fields vs) {fuel : Nat} :
    ∀ (ie : IE) (e : Expr), chkIT T N fuel sc ie e = true → CPT X cl H0 C0 e (rdIT G ex a cc ie) := by
  intro ie
  induction ie with
  | leaf c => exact fun e h => (chk_sound F fuel sc _ _).2 (by simpa [chkIT] using h) true X H0 C0 ex ok tk
  | isx ans u j =>
    intro e h
    have h' : chkIsx T N sc e ans u j = true := by simpa [chkIT] using h
    have q := isx_sound F (H0 := H0) (C0 := C0) (ex := ex) ok hcc hx hp hz hf h'
    refine cpt_val q ?_
    unfold chkIsx at h'
    split at h'
    · exact fun _ => rfl
    · cases h'
  | and2 x y ihx ihy =>
    intro e h
    simp only [chkIT] at h
    split at h
    · simp only [Bool.and_eq_true] at h
      rename_i p q pos
      exact (cpw_and (ihx p h.1) (cpw_and1 (ihy q h.2))).pt
    · cases h
  | and3 x y z ihx ihy ihz =>
    intro e h
    simp only [chkIT] at h
    split at h
    · simp only [Bool.and_eq_true] at h
      rename_i p q r pos
      exact (cpw_and (ihx p h.1) (cpw_and (ihy q h.2.1) (cpw_and1 (ihz r h.2.2)))).pt
    · cases h
  | or2 x y ihx ihy =>
    intro e h
    simp only [chkIT] at h
    split at h
    · simp only [Bool.and_eq_true] at h
      rename_i p q pos
      exact (cpw_or (ihx p h.1) (cpw_or1 (ihy q h.2))).pt
    · cases h
  | not x ihx =>
    intro e h
    simp only [chkIT] at h
    split at h
    · rename_i p pos
      exact cpt_not (ihx p h)
    · cases h
  | isxT ans us j =>
    intro e h
    have h' : chkIsxT T N sc e ans us j = true := by simpa [chkIT] using h
    have q := isxT_sound F (H0 := H0) (C0 := C0) (ex := ex) ok hcc hx hp hz hf h'
    refine cpt_val q ?_
    unfold chkIsxT at h'
    split at h'
    · exact fun _ => rfl
    · cases h'
  | or3 x y z ihx ihy ihz =>
    intro e h
    simp only [chkIT] at h
    split at h
    · simp only [Bool.and_eq_true] at h
      rename_i p q r pos
      exact (cpw_or (ihx p h.1) (cpw_or (ihy q h.2.1) (cpw_or1 (ihz r h.2.2)))).pt
    · cases h
  | lst3 x y z _ _ _ => intro e h; simp [chkIT] at h
  | ite t x y _ _ _ => intro e h; simp [chkIT] at h
theorem chkI_sound {X : Cx} {H0 : Hp} {C0 : CH} {ex : Kxs} (ok : XOk P w K mg base cl.tb n N sc true X) (tk : Takes X (WC K cl H0 C0 ex)) {a cc : Nat} {oe : Obj} {Ca : Addr} (hcc : cl cc = some Ca) (hx : T.xcl cc = true) (hp : (a, oe) ∈ X.pn) (hz : Zc (.ref Ca) none oe) (hf : ∃ vs, oe.data = .fields vs) {fuel : Nat} :
    ∀ (ie : IE) (e : Expr), chkI T N fuel sc ie e = true → CPE X cl H0 C0 e (rdI G ex a cc ie) := by
  intro ie
  induction ie with
  | leaf c => exact fun e h => (chk_sound F fuel sc _ _).1 (by simpa [chkI] using h) true X H0 C0 ex ok tk
  | isx ans u j => exact fun e h => isx_sound F (H0 := H0) (C0 := C0) (ex := ex) ok hcc hx hp hz hf (by simpa [chkI] using h)
  | isxT ans us j => exact fun e h => isxT_sound F (H0 := H0) (C0 := C0) (ex := ex) ok hcc hx hp hz hf (by simpa [chkI] using h)
  | or3 x y z ihx ihy ihz =>
    intro e h
    simp only [chkI] at h
    split at h
    · simp only [Bool.and_eq_true] at h
      rename_i p q r pos
      exact cpe_or (ihx p h.1) (cpe_or (ihy q h.2.1) (cpe_one (ihz r h.2.2)))
    · cases h
  | lst3 x y z ihx ihy ihz =>
    intro e h
    simp only [chkI] at h
    split at h
    · simp only [Bool.and_eq_true] at h
      rename_i p q r pos
      obtain ⟨⟨⟨n1, n2⟩, n3⟩, h1, h2, h3⟩ := h
      exact cpe_lst (cpa_cons (ihx p h1) (cpa_cons (ihy q h2) (cpa_cons (ihz r h3) cpa_nil (star_of n3)) (star_of n2)) (star_of n1))
    · cases h
  | and2 x y ihx ihy =>
    intro e h
    simp only [chkI] at h
    split at h
    · simp only [Bool.and_eq_true] at h
      rename_i p q pos
      exact cpe_and (ihx p h.1) (cpe_one (ihy q h.2))
    · cases h
  | and3 x y z ihx ihy ihz =>
    intro e h
    simp only [chkI] at h
    split at h
    · simp only [Bool.and_eq_true] at h
      rename_i p q r pos
      exact cpe_and (ihx p h.1) (cpe_and (ihy q h.2.1) (cpe_one (ihz r h.2.2)))
    · cases h
  | or2 x y ihx ihy =>
    intro e h
    simp only [chkI] at h
    split at h
    · simp only [Bool.and_eq_true] at h
      rename_i p q pos
      exact cpe_or (ihx p h.1) (cpe_one (ihy q h.2))
    · cases h
  | not x ihx =>
    intro e h
    simp only [chkI] at h
    split at h
    · rename_i p pos
      exact cpe_not (ihx p h)
    · cases h
  | ite t x y _ ihx ihy =>
    intro e h
    simp only [chkI] at h
    split at h
    · simp only [Bool.and_eq_true] at h
      rename_i z p q pos
      exact cpe_if (chkIT_sound F ok tk hcc hx hp hz hf t z h.1) (ihx p h.2.1) (ihy q h.2.2)
    · cases h
theorem chkIS_sound {X : Cx} {H0 : Hp} {C0 : CH} {ex : Kxs} (ok : XOk P w K mg base cl.tb n N sc true X) (tk : Takes X (WC K cl H0 C0 ex)) {a cc : Nat} {oe : Obj} {Ca : Addr} (hcc : cl cc = some Ca) (hx : T.xcl cc = true) (hp : (a, oe) ∈ X.pn) (hz : Zc (.ref Ca) none oe) (hf : ∃ vs, oe.data = .fields vs) {fuel : Nat} :
    ∀ (is : List IS) (ss : List Stmt), chkIS T N fuel sc is ss = true → CPSs X cl H0 C0 ss (rdIS G ex a cc is) := by
  have nd : X.N.Nodup := by rw [ok.N_]; exact ok.nd
  intro is
  induction is with
  | nil => intro ss h; unfold chkIS at h; cases h
  | cons i0 r ih =>
    intro ss h
    unfold chkIS at h
    split at h
    · rename_i heq
      cases heq
      exact cpss_false _
    · rename_i t r' e x0 p0 ss' heq
      cases heq
      simp only [Bool.and_eq_true] at h
      have ht := (chk_sound F fuel sc _ _).2 h.1 true X H0 C0 ex ok tk
      exact cpss_cons (cps_if (pos := p0) ht (cpss_false x0) cpss_nil) (ih _ h.2)
    · rename_i i c r' x xp e p0 ss' heq
      cases heq
      simp only [Bool.and_eq_true] at h
      obtain ⟨⟨⟨h1, h2⟩, h3⟩, h4⟩ := h
      obtain ⟨g1, g2⟩ := nmL_ok h1
      exact cpss_cons (cps_setT nd (by rw [ok.N_]; exact g1) (by rw [ok.sc_]; exact g2) (chkI_sound F ok tk hcc hx hp hz hf c e h2) (swap_none h3) (by rw [ok.sc_]; exact ok.loc rfl _ g2)) (ih _ h4)
    · rename_i t c r' e e2 p2 p0 ss' heq
      cases heq
      simp only [Bool.and_eq_true] at h
      obtain ⟨⟨h1, h2⟩, h3⟩ := h
      exact cpss_cons (cps_if (pos := p0) (chkIT_sound F ok tk hcc hx hp hz hf t e h1) (cpss_cons (cps_ret (pos := p2) ((chk_sound F fuel sc _ _).1 h2 true X H0 C0 ex ok tk)) cpss_nil) cpss_nil) (ih _ h3)
    · rename_i c e p0 heq
      cases heq
      exact cpss_one (cps_ret (pos := p0) (chkI_sound F ok tk hcc hx hp hz hf c e h))
    · cases h
theorem chkLF_sound {X : Cx} {H0 : Hp} {C0 : CH} {ex : Kxs} (ok : XOk P w K mg base cl.tb n N sc true X)
    (act : ∀ (a : Str) (p1 p2 : Pos), X.N[0]? = some a → Vis X.env.scope a → (a == ("__debug__" : Str)) = false → (a == ("__classdict__" : Str)) = false → CPE X cl H0 C0 (.Call (.Name a p1) [] [] p2) (cAct G.act 0 ex)) {lf : LF} {b : List Stmt} (h : chkLF N sc lf b = true) : CPSs X cl H0 C0 b (sLF G ex lf) := by
  have nd : X.N.Nodup := by rw [ok.N_]; exact ok.nd
  have go : ∀ {e : Expr}, chkAct N sc e = true → CPE X cl H0 C0 e (cAct G.act 0 ex) ∧ notComp e = true ∧ notStar e = true := fun {e} h => by
    unfold chkAct at h
    split at h
    · obtain ⟨n1, n2, n3, n4⟩ := nmV_ok h
      exact ⟨act _ _ _ (by rw [ok.N_]; exact n1) (by rw [ok.sc_]; exact n2) n3 n4, rfl, rfl⟩
    · cases h
  unfold chkLF at h
  split at h
  · simp only [Bool.and_eq_true] at h
    obtain ⟨g1, g2⟩ := nmL_ok h.1
    obtain ⟨q1, q2, _⟩ := go h.2
    exact cpss_one (cps_setT nd (by rw [ok.N_]; exact g1) (by rw [ok.sc_]; exact g2) q1 (swap_none q2) (by rw [ok.sc_]; exact ok.loc rfl _ g2))
  · simp only [Bool.and_eq_true] at h
    obtain ⟨g1, g2⟩ := nmL_ok h.1
    obtain ⟨q1, q2, q3⟩ := go h.2
    exact cpss_one (cps_setT nd (by rw [ok.N_]; exact g1) (by rw [ok.sc_]; exact g2) (cpe_lst (cpa_cons q1 cpa_nil (star_of q3))) (swap_none rfl) (by rw [ok.sc_]; exact ok.loc rfl _ g2))
  · obtain ⟨q1, q2, _⟩ := go h
    exact cpss_one (cps_expr q1 (swap_none q2))
  · cases h
theorem chkK_sound {X : Cx} {H0 : Hp} {C0 : CH} {ex : Kxs} (ok : XOk P w K mg base cl.tb n N sc true X) (tk : Takes X (WC K cl H0 C0 ex)) (hact : ActOk X cl G.act H0 C0) {fuel : Nat} {s : Stmt} {r : List Stmt} {c : CS} (h : chkK T N fuel sc s r c = true) : CPSs X cl H0 C0 (s :: r) (rdS G ex c) := by
  have nd : X.N.Nodup := by rw [ok.N_]; exact ok.nd
  cases c with
  | tryK cs i body suite rest t ie =>
    simp only [chkK, Bool.and_eq_true] at h
    obtain ⟨⟨h1, h2⟩, h3⟩ := h
    split at h1
    · simp only [Bool.and_eq_true, decide_eq_true_eq] at h1
      obtain ⟨⟨⟨⟨⟨⟨k1, k2⟩, k3⟩, k4⟩, k5⟩, k6⟩, k7⟩ := h1
      split at h3
      · rename_i e0 x0 p0 e2 p2
        simp only [Bool.and_eq_true] at h3
        obtain ⟨g1, g2⟩ := glN_ok ok.sc_ k1
        obtain ⟨c, c1, c2⟩ := F.tch _ _ k2
        obtain ⟨f1, f2⟩ := ok.fr rfl
        rw [← ok.mg_] at c1
        refine cpss_try_keep (b := fun ex' => rdSs G ex' body) (s := rdSs G (fun _ _ _ => False) suite) (r := rdSs G ex rest) (kk := fun a cc => sCaught G ex cs t ie a cc) f1 f2 nd (by rw [ok.N_]; exact k4) (by show X.env.scope.names.lookup _ = _; rw [ok.sc_]; exact k5) ⟨g1, g2, c1⟩ (by rw [ok.K_]; exact c2) (by rw [ok.K_]; exact tk) (fun pn xe ex' H1 C1 _ tk' po => ?_) (fun a oe pn => ?_) ?_ (fun a oe cc Ca hcc hz hf => ?_)
        · have ok' : XOk P w K mg base cl.tb n N sc true (X.tr pn xe) := ⟨ok.P_, ok.w_, ok.K_, ok.mg_, ok.base_, ok.N_, ok.nd, ok.sc_, ok.kind, ok.calm, ok.room, ok.loc, po, ok.gd, ok.fr, ok.tab⟩
          exact snd_ss (sc := sc) (fun s c h => chkS_sound F fuel sc s c h _ H1 C1 ex' ok' (by rw [← ok.K_]; exact tk')) k6
        · exact snd_ss (X := X.suite a ((a, oe) :: pn)) (sc := sc) (fun s c h => suite_sound (X := X.suite a ((a, oe) :: pn)) ok.nd ok.N_ ok.sc_ h) k7
        · exact snd_ss (sc := sc) (fun s c h => chkS_sound F fuel sc s c h X H0 C0 ex ok tk) h2
        · have okp := ok.pin a oe
          have tkp := takes_pin tk a oe
          by_cases hin : cc ∈ cs
          · have hx : T.xcl cc = true := List.all_eq_true.mp k3 cc hin
            have ht := (chk_sound F fuel sc _ _).2 h3.1 true (pinX X a oe) H0 C0 ex okp tkp
            have hi := chkI_sound F (H0 := H0) (C0 := C0) (ex := ex) okp tkp hcc hx List.mem_cons_self hz hf ie e2 h3.2
            have q := cpss_cons (cps_if (pos := p0) ht (cpss_false x0) cpss_nil) (cpss_one (cps_ret (pos := p2) hi))
            refine q.imp fun D σ H h => ?_
            have e : sCaught G ex cs t ie a cc = sSeq (sIf (rdT G ex t) (fun _ _ _ => False) sNext) (sRet (rdI G ex a cc ie)) := by
              funext D' σ' C'
              simp only [sCaught, hin, decide_true, if_true]
            rw [e] at h
            exact h
          · refine ⟨fun pins s σ H D I ⟨σc, C, Dc, S, h, hq⟩ => ?_⟩
            simp only [sCaught, hin, decide_false, Bool.false_eq_true, if_false] at h
      · cases h3
    · cases h1
  | tryL cs i lf suite rest is =>
    simp only [chkK, Bool.and_eq_true] at h
    obtain ⟨⟨h1, h2⟩, h3⟩ := h
    split at h1
    · simp only [Bool.and_eq_true, decide_eq_true_eq] at h1
      obtain ⟨⟨⟨⟨⟨⟨k1, k2⟩, k3⟩, k4⟩, k5⟩, k6⟩, k7⟩ := h1
      obtain ⟨g1, g2⟩ := glN_ok ok.sc_ k1
      obtain ⟨c, c1, c2⟩ := F.tch _ _ k2
      obtain ⟨f1, f2⟩ := ok.fr rfl
      rw [← ok.mg_] at c1
      refine cpss_try_keep (b := fun ex' => sLF G ex' lf) (s := rdSs G (fun _ _ _ => False) suite) (r := rdSs G ex rest) (kk := fun a cc => sCaughtL G ex cs is a cc) f1 f2 nd (by rw [ok.N_]; exact k4) (by show X.env.scope.names.lookup _ = _; rw [ok.sc_]; exact k5) ⟨g1, g2, c1⟩ (by rw [ok.K_]; exact c2) (by rw [ok.K_]; exact tk) (fun pn xe ex' H1 C1 hk tk' po => ?_) (fun a oe pn => ?_) ?_ (fun a oe cc Ca hcc hz hf => ?_)
      · have ok' : XOk P w K mg base cl.tb n N sc true (X.tr pn xe) := ⟨ok.P_, ok.w_, ok.K_, ok.mg_, ok.base_, ok.N_, ok.nd, ok.sc_, ok.kind, ok.calm, ok.room, ok.loc, po, ok.gd, ok.fr, ok.tab⟩
        exact chkLF_sound F (G := G) ok' (hact pn xe H1 C1 ex' hk tk') k6
      · exact snd_ss (X := X.suite a ((a, oe) :: pn)) (sc := sc) (fun s c h => suite_sound (X := X.suite a ((a, oe) :: pn)) ok.nd ok.N_ ok.sc_ h) k7
      · exact snd_ss (sc := sc) (fun s c h => chkS_sound F fuel sc s c h X H0 C0 ex ok tk) h2
      · have okp := ok.pin a oe
        have tkp := takes_pin tk a oe
        by_cases hin : cc ∈ cs
        · have hx : T.xcl cc = true := List.all_eq_true.mp k3 cc hin
          have q := chkIS_sound F (H0 := H0) (C0 := C0) (ex := ex) okp tkp hcc hx List.mem_cons_self hz hf is _ h3
          refine q.imp fun D σ H h => ?_
          have e : sCaughtL G ex cs is a cc = rdIS G ex a cc is := by
            funext D' σ' C'
            simp only [sCaughtL, hin, decide_true, if_true]
          rw [e] at h
          exact h
        · refine ⟨fun pins s σ H D I ⟨σc, C, Dc, S, h, hq⟩ => ?_⟩
          simp only [sCaughtL, hin, decide_false, Bool.false_eq_true, if_false] at h
    · cases h1
  | _ => simp [chkK] at h
theorem chkTop_sound {X : Cx} {H0 : Hp} {C0 : CH} {ex : Kxs} (ok : XOk P w K mg base cl.tb n N sc true X) (tk : Takes X (WC K cl H0 C0 ex)) (hact : ActOk X cl G.act H0 C0) {fuel : Nat} : ∀ {ss : List Stmt} {cs : List CS}, chkTop T N fuel sc ss cs = true → CPSs X cl H0 C0 ss (rdSs G ex cs)
  | [], [], _ => cpss_nil
  | [], _ :: _, h => by simp [chkTop] at h
  | _ :: _, [], h => by simp [chkTop] at h
  | s :: r, c :: cs, h => by
    unfold chkTop at h
    split at h
    · simp only [Bool.and_eq_true, List.isEmpty_iff] at h
      obtain ⟨h1, h2⟩ := h
      subst h1
      have q := chkK_sound F (H0 := H0) (C0 := C0) (ex := ex) ok tk hact h2
      exact q.imp fun D σ H ⟨σc, C, Dc, S, h, hq⟩ => ⟨σc, C, Dc, S, h, hq⟩
    · simp only [Bool.and_eq_true] at h
      exact cpss_cons (chkS_sound F fuel sc s c h.1 X H0 C0 ex ok tk) (chkTop_sound ok tk hact h.2)
end
end
end L3
namespace L3
open PySem L2
structure FDef where
  np : Nat
  ns : Nat
  body : List CS
noncomputable abbrev Prog3 := List (Nat × FDef)
noncomputable def Prog3.get (p : Prog3) (f : Nat) : Option FDef := (p.find? fun q => q.1 == f).map (·.2)
noncomputable def startN (n : Nat) (ds : List D) : Env3 := ds.map some ++ List.replicate (n - ds.length) none
/-- what is behind a body: what is made meanwhile may be forgotten -/
noncomputable def endN (Q : Kv) : EndsC := { nx := fun _ C' => ∃ C1, Sub C1 C' ∧ Q .non C1, rt := fun d C' => ∃ C1, Sub C1 C' ∧ Q d C1 }
noncomputable def exN (E : Kx) : Kxs := fun y _ C' => ∃ C1, Sub C1 C' ∧ E y C1
/-- the meaning of the defs that call what they are given -/
noncomputable def wpL (p : Prog3) (kit : String ⊕ Nat → String ⊕ Nat → Option Bool) (call make : Nat → SemF) : Nat → SemA → SemF := fun g act ds C Q E => match p.get g with
  | none => False
  | some d => ds.length = d.np ∧ rdSs ⟨call, make, kit, lam0, act, sem0, sem0⟩ (exN E) d.body (endN Q) (startN d.ns ds) C
/-- the meaning of the defs, with n calls one within another -/
noncomputable def wpN (p : Prog3) (kit : String ⊕ Nat → String ⊕ Nat → Option Bool) : Nat → Nat → SemF
  | 0, _ => fun _ _ _ _ => False
  | n + 1, f => fun ds C Q E => match p.get f with
    | none => False
    | some d => ds.length = d.np ∧ rdSs ⟨wpN p kit n, match n with | 0 => fun _ _ _ _ _ => False | m + 1 => wpN p kit m, kit, match n with | 0 => lam0 | m + 1 => (match m with | 0 => lam0 | k + 1 => wpL p kit (wpN p kit k) (match k with | 0 => sem0 | j + 1 => wpN p kit j)), act0, match n with | 0 => sem0 | m + 1 => (match m with | 0 => sem0 | k + 1 => wpN p kit k), match n with | 0 => sem0 | m + 1 => (match m with | 0 => sem0 | k + 1 => (match k with | 0 => sem0 | j + 1 => wpN p kit j))⟩ (exN E) d.body (endN Q) (startN d.ns ds) C
noncomputable def gN (p : Prog3) (kit : String ⊕ Nat → String ⊕ Nat → Option Bool) (n : Nat) : G3 := ⟨wpN p kit n, match n with | 0 => fun _ _ _ _ _ => False | m + 1 => wpN p kit m, kit, match n with | 0 => lam0 | m + 1 => (match m with | 0 => lam0 | k + 1 => wpL p kit (wpN p kit k) (match k with | 0 => sem0 | j + 1 => wpN p kit j)), act0, match n with | 0 => sem0 | m + 1 => (match m with | 0 => sem0 | k + 1 => wpN p kit k), match n with | 0 => sem0 | m + 1 => (match m with | 0 => sem0 | k + 1 => (match k with | 0 => sem0 | j + 1 => wpN p kit j))⟩
set_option smartUnfolding false in
theorem wpN_succ (p : Prog3) (kit : String ⊕ Nat → String ⊕ Nat → Option Bool) (n f : Nat) : wpN p kit (n + 1) f = fun ds C Q E => match p.get f with
    | none => False
    | some d => ds.length = d.np ∧ rdSs (gN p kit n) (exN E) d.body (endN Q) (startN d.ns ds) C := by
  unfold gN
  match n with
  | .zero => rfl
  | .succ .zero => rfl
  | .succ (.succ .zero) => rfl
  | .succ (.succ (.succ _)) => with_unfolding_all rfl
/-- the same for the body of a def that calls what it is given -/
noncomputable def gA (p : Prog3) (kit : String ⊕ Nat → String ⊕ Nat → Option Bool) (n : Nat) (act : SemA) : G3 := ⟨wpN p kit n, match n with | 0 => fun _ _ _ _ _ => False | m + 1 => wpN p kit m, kit, lam0, act, sem0, sem0⟩
/-- levels -/
noncomputable abbrev lv (n : Nat) : Nat := n + 10
/-- a def of the law as it stands in the text, and its clean form -/
structure DefT where
  f : Nat
  name : Str
  qual : Str
  stmt : Stmt
  N : List Str
  ps : List Str
  fuel : Nat
/-- a def whose scope is a maker's is known as that maker -/
noncomputable def lamCk (T : Tab) (f : Nat) (names : List (Str × NameKind)) : Bool := match T.lamS names with
  | none => true
  | some j => decide (T.lamM f = some j)
noncomputable def DefT.ok (T : Tab) (p : Prog3) (d : DefT) : Bool := match p.get d.f with
  | none => false
  | some c => chkTop T d.N d.fuel (defScope d.stmt) (defBody d.stmt) c.body && decide (c.np = d.ps.length) && decide (c.ns = d.N.length) &&
    (match (defScope d.stmt).kind with | .function => true | _ => false) && !(defScope d.stmt).isCoroutine && !(defScope d.stmt).isGenerator && decide d.N.Nodup && decide (d.N.take d.ps.length = d.ps) && (d.ps.all fun x => match (defScope d.stmt).names.lookup x with | some .local => true | some .cell => true | _ => false) && ((defScope d.stmt).names.all fun y => match y.2 with | .free => false | _ => true) && lamCk T d.f (defScope d.stmt).names
theorem DefT.scope {T : Tab} {p : Prog3} {d : DefT} (h : d.ok T p = true) : FnScope d.N d.ps (defScope d.stmt) := by
  unfold DefT.ok at h
  split at h
  · cases h
  · simp only [Bool.and_eq_true, decide_eq_true_eq, Bool.not_eq_true', List.all_eq_true] at h
    obtain ⟨⟨⟨⟨⟨⟨⟨⟨⟨⟨h1, h2⟩, h3⟩, h4⟩, h5⟩, h6⟩, h7⟩, h8⟩, h9⟩, h10⟩, _⟩ := h
    refine ⟨?_, h5, h6, h7, h8, fun x hx => ?_, fun y hy z => ?_⟩
    · split at h4 <;> first | assumption | cases h4
    · have := h9 x hx
      split at this <;> first | (left; assumption) | (right; assumption) | cases this
    · have := h10 y hy
      rw [z] at this
      cases this
/-- a def as it stands behind the top -/
structure DefAt (K : PySem.W.Frag) (d : DefT) (a : Addr) (fd : FuncData) : Prop where
  ex : ∃ (oc : Value) (od : Option Addr) (dV kV doc pm : Value) (an : Option Addr) (cdv ct : Value) (osl : Array (Option Value)),
    fd = PySem.W.fnOf d.name d.qual (defArgs d.stmt) (defBody d.stmt) (defScope d.stmt) dV kV doc pm an cdv ct ∧ K.lookup a = some ⟨oc, od, .func fd, osl⟩ ∧ PySem.W.codeIn K cdv d.qual = true
  kp : PySem.W.keepIn K (.ref a) = true
section
variable {T : Tab} {P : Program} {w : World} {K : PySem.W.Frag} {mg : Str → Option Value} {base : Heap} {cl : ClsT} {p : Prog3} {kit : String ⊕ Nat → String ⊕ Nat → Option Bool}
theorem actOk0 {X : Cx} {H : Hp} {C : CH} : ActOk X cl act0 H C := fun pn xe H0 C0 ex _ _ a p1 p2 _ _ _ _ => ⟨fun pins s σ H Q I ⟨σc, C, Qc, S, ⟨d, _, z⟩, hq⟩ => z.elim⟩
/-- one def: from the facts about what it calls (n calls) to its own promise (n + 1 calls) -/
theorem def_step {n : Nat} {d : DefT} {a : Addr} {fd : FuncData} {c : FDef} (F : Facts T P w K mg base cl (gN p kit n) (lv n)) (A : DefAt K d a fd) (hc : p.get d.f = some c) (h : d.ok T p = true) (hlam : ∀ r ∈ cl.tb, r.names = (defScope d.stmt).names → fd.code = .ref r.c ∧ d.qual ++ ".<locals>." ++ "<lambda>" = r.q) (htb : ∀ r ∈ cl.tb, LamX.TabB base mg r.c r.P) : FnOkG P w K mg base (L2.CX P w) (lv n + 1) a fd d.ps (spC K cl c.np (wpN p kit (n + 1) d.f)) := by
  have S := DefT.scope h
  obtain ⟨oc, od, dV, kV, doc, pm, an, cdv, ct, osl, rfl, lk, hcd⟩ := A.ex
  have h' := h
  unfold DefT.ok at h'
  rw [hc] at h'
  simp only [Bool.and_eq_true, decide_eq_true_eq] at h'
  obtain ⟨⟨⟨⟨⟨⟨⟨⟨⟨⟨h1, h2⟩, h3⟩, _⟩, _⟩, _⟩, _⟩, _⟩, _⟩, _⟩, _⟩ := h'
  rw [h2]
  refine fn_ofG lk hcd S (fun vs H Q E ⟨ds, C, Qc, Ec, r, hl, _⟩ => by rw [← r.length, hl]) fun A' outer s H vs Q E hr hgd ⟨ds, C, Qc, Ec, r, hl, R, hs, hq, hx⟩ => ?_
  have ok : XOk P w K mg base cl.tb (lv n) d.N (defScope d.stmt) true (cxOf (L2.CX P w) P w K mg base d.N d.qual (defScope d.stmt) a cdv A' outer s H E) := ⟨rfl, rfl, rfl, rfl, rfl, rfl, S.nd, rfl, S.kind, rfl, hr, fun _ _ _ => .inl rfl, passes_of rfl, hgd, fun _ => ⟨rfl, rfl⟩, fun r hr' e => ⟨(hlam r hr' e).1, htb r hr', (hlam r hr' e).2⟩⟩
  have tk : Takes (cxOf (L2.CX P w) P w K mg base d.N d.qual (defScope d.stmt) a cdv A' outer s H E) (WC K cl H C (exN Ec)) :=
    (takes_of (E := E) rfl rfl rfl rfl).imp fun cls d' σ H' ⟨y, σc, C', ⟨C1, s1, q⟩, xr, S'⟩ => hx y C1 cls d' H' q xr (S'.r.sub s1) (S'.f.sub s1)
  have body := chkTop_sound F (sc := defScope d.stmt) (H0 := H) (C0 := C) (ex := exN Ec) ok tk actOk0 h1
  refine ⟨_, body, startN c.ns ds, C, endN Qc, ⟨?_, R, Keep.refl⟩, ?_, ?_⟩
  · have q := start_rep (N := d.N) r
    unfold start3 at q
    rw [h3]
    exact q
  · have hs' : ds.length = c.np ∧ rdSs (gN p kit n) (exN Ec) c.body (endN Qc) (startN c.ns ds) C := by
      rw [wpN_succ] at hs
      simp only [hc] at hs
      exact hs
    exact hs'.2
  · exact ⟨fun σc' C' σ' H' ⟨C1, s1, q⟩ _ R' k => hq _ _ _ _ q .non (R'.sub s1) (k.sub s1), fun d' C' v H' ⟨C1, s1, q⟩ rv R' k => hq _ _ _ _ q rv (R'.sub s1) (k.sub s1), fun _ _ _ _ z => z.elim, fun _ _ _ _ z => z.elim⟩
/-- one def that calls what it is given -/
theorem lam_step {n : Nat} {d : DefT} {a : Addr} {fd : FuncData} {c : FDef} (F : ∀ act, Facts T P w K mg base cl (gA p kit n act) (lv n)) (A : DefAt K d a fd) (hc : p.get d.f = some c) (h : d.ok T p = true) (hlam : ∀ r ∈ cl.tb, r.names ≠ (defScope d.stmt).names) (hb : BindsC K fd d.ps 1 [] [.pos 0]) (h1p : d.ps.length = 1) :
    LamAt P w K mg base cl (lv n) a (wpL p kit (wpN p kit n) (gA p kit n act0).make d.f) := by
  have S := DefT.scope h
  obtain ⟨oc, od, dV, kV, doc, pm, an, cdv, ct, osl, rfl, lk, hcd⟩ := A.ex
  have h' := h
  unfold DefT.ok at h'
  rw [hc] at h'
  simp only [Bool.and_eq_true, decide_eq_true_eq] at h'
  obtain ⟨⟨⟨⟨⟨⟨⟨⟨⟨⟨h1, h2⟩, h3⟩, _⟩, _⟩, _⟩, _⟩, _⟩, _⟩, _⟩, _⟩ := h'
  refine ⟨d.N, d.qual, defScope d.stmt, cdv, fun A' outer s H C f act Q E Qc Ec hr hgd e0 R hact hs hq hx => ?_⟩
  obtain ⟨gv, gV, b1, b2, b3⟩ := hb
  have inK := e0.mod.kin.keeps fun b o q => (e0.bs b o q).1
  have rr := b3 H [.ref f] [.ref f] [] [] rfl rfl (.cons (.ref f) .nil) .nil
  refine run_ofG (N := d.N) (k := lv n + 1) (us := gv [.ref f] []) (vs := gV [V.ref f] []) lk hcd S hr e0 (b1 s [.ref f] [] inK rfl rfl) (b2 (.cons (show RelV (V.ref f) (Value.ref f) from rfl) .nil) .nil) (by rw [← rr.length, h1p]; rfl) fun hr' => ?_
  have ok : XOk P w K mg base cl.tb (lv n) d.N (defScope d.stmt) true (cxOf (L2.CX P w) P w K mg base d.N d.qual (defScope d.stmt) a cdv A' outer s H E) := ⟨rfl, rfl, rfl, rfl, rfl, rfl, S.nd, rfl, S.kind, rfl, hr'.mono (by omega), fun _ _ _ => .inl rfl, passes_of rfl, hgd, fun _ => ⟨rfl, rfl⟩, fun r hr' e => absurd e (hlam r hr')⟩
  have tk : Takes (cxOf (L2.CX P w) P w K mg base d.N d.qual (defScope d.stmt) a cdv A' outer s H E) (WC K cl H C (exN Ec)) :=
    (takes_of (E := E) rfl rfl rfl rfl).imp fun cls d' σ H' ⟨y, σc, C', ⟨C1, s1, q⟩, xr, S'⟩ => hx y C1 cls d' H' q xr (S'.r.sub s1) (S'.f.sub s1)
  have body := chkTop_sound (F act) (sc := defScope d.stmt) (H0 := H) (C0 := C) (ex := exN Ec) ok tk (hact hr') h1
  refine ⟨_, body, startN c.ns [.ref f], C, endN Qc, ⟨?_, R, Keep.refl⟩, ?_, ?_⟩
  · have q := start_rep (N := d.N) rr
    unfold start3 at q
    rw [h3]
    exact q
  · have hs' : [D.ref f].length = c.np ∧ rdSs (gA p kit n act) (exN Ec) c.body (endN Qc) (startN c.ns [.ref f]) C := by
      unfold wpL at hs
      simp only [hc] at hs
      exact hs
    exact hs'.2
  · exact ⟨fun σc' C' σ' H' ⟨C1, s1, q⟩ _ R' k => hq _ _ _ _ q .non (R'.sub s1) (k.sub s1), fun d' C' v H' ⟨C1, s1, q⟩ rv R' k => hq _ _ _ _ q rv (R'.sub s1) (k.sub s1), fun _ _ _ _ z => z.elim, fun _ _ _ _ z => z.elim⟩
/-- what is known of the law's names, whatever the defs do -/
structure Names3 (T : Tab) (K : PySem.W.Frag) (mg : Str → Option Value) (cl : ClsT) (p : Prog3) (kit : String ⊕ Nat → String ⊕ Nat → Option Bool) (at_ : Nat → Option (DefT × Addr × FuncData)) : Prop where
  defs : ∀ f d a fd, at_ f = some (d, a, fd) → d.f = f ∧ DefAt K d a fd ∧ d.ok T p = true ∧ ∀ m ks np g, T.shape f m ks = some (np, g) → np = d.ps.length ∧ BindsC K fd d.ps m ks g
  fn : ∀ x f, T.fn x = some f → ∃ d a fd, at_ f = some (d, a, fd) ∧ mg x = some (.ref a)
  cls : ∀ x c, T.cls x = some c → ∃ Ca, cl c = some Ca ∧ mg x = some (.ref Ca)
  init : ∀ c f, T.init c = some f → ∃ Ca d a fd, cl c = some Ca ∧ at_ f = some (d, a, fd) ∧ Mk K Ca a
  own : ∀ c f, T.own c = some f → ∃ Ca d a fd, cl c = some Ca ∧ at_ f = some (d, a, fd) ∧ OwnEX K Ca a
  ownL : ∀ c f, T.ownL c = some f → ∃ Ca d a fd, cl c = some Ca ∧ at_ f = some (d, a, fd) ∧ OwnL K Ca a
  ownB : ∀ c f, T.ownB c = some f → ∃ Ca d a fd, cl c = some Ca ∧ at_ f = some (d, a, fd) ∧ OwnB K Ca a
  xcl : ∀ c Ca, T.xcl c = true → cl c = some Ca → ExcC K Ca
  xkit : ∀ c u b Ca, T.xkit c u = some b → cl c = some Ca → ∃ vu, tyVal cl u = some vu ∧ PySem.W.kitOne K (.ref Ca) vu = some b
  mth : ∀ c m f, T.mth c m = some f → ∃ Ca d a fd, cl c = some Ca ∧ at_ f = some (d, a, fd) ∧ Cls K Ca ∧ Meth K Ca m a
  glb : ∀ x d, T.glb x = some d → ∃ u v, mg x = some u ∧ RelV v u ∧ ∀ H, Rep K H d v
  blt : ∀ x, T.blt x = true → mg x = none
  attr : ∀ c f Ca, T.attr c f = true → cl c = some Ca → Cls K Ca ∧ NoAttr K Ca f
  kit_ : KitOk K cl kit
  kitc : ∀ c u b Ca, kit (.inr c) u = some b → cl c = some Ca → ClsOk K Ca
  exc : ∀ c Ca, T.exc c = true → cl c = some Ca → PySem.W.excIn K Ca [.type "ValueError", .type "Exception", .type "BaseException", .type "object"] "ValueError.__new__" = true ∧ PySem.W.keepIn K (.ref Ca) = true ∧ PySem.W.subIn K (.ref Ca) (.type "BaseException") = some true ∧ PySem.W.typeIn K (.ref Ca) = some (.type "type")
  tch : ∀ x cs, T.tch x cs = true → ∃ c, (mg x = some c ∨ (mg x = none ∧ bootBuiltins x = some c ∧ x ≠ "__name__")) ∧ SubOk K cl c fun i => decide (i ∈ cs)
  gdc : ∀ x tab, T.gdc x = some tab → ∃ p, mg x = some (.ref p) ∧ WDct K cl.w p tab ∧ ∃ es m, K.lookup p = some ⟨.type "dict", none, .dict es m, #[]⟩
  lamD : ∀ x g, T.lamD x = some g → ∃ d a fd, at_ g = some (d, a, fd) ∧ mg x = some (.ref a) ∧ BindsC K fd d.ps 1 [] [.pos 0] ∧ d.ps.length = 1 ∧ ∀ r ∈ cl.tb, r.names ≠ (defScope d.stmt).names
  lamS : ∀ l j, T.lamS l = some j → ∃ r, cl.tb[j]? = some r ∧ r.names = l
  lamI : ∀ (j : Nat) (r : LamR), cl.tb[j]? = some r → T.lamS r.names ≠ none
  lamU : ∀ r ∈ cl.tb, ∀ p ∈ cl.tb, p.P = r.P → p.q = r.q
  lamC : ∀ f d a fd, at_ f = some (d, a, fd) → ∀ r ∈ cl.tb, r.names = (defScope d.stmt).names → fd.code = .ref r.c ∧ d.qual ++ ".<locals>." ++ "<lambda>" = r.q
theorem none_at {f : Addr} {fd : FuncData} {ps : List Str} {np : Nat} {g k : Nat} (hl : np = ps.length) : FnOkG P w K mg base (L2.CX P w) k f fd ps (spC K cl np (wpN p kit 0 g)) :=
  ⟨fun vs H Q E ⟨ds, C, Qc, Ec, r, h, _⟩ => by rw [← r.length, h, hl], fun A outer s H args us vs Q E _ _ _ _ _ ⟨_, _, _, _, _, _, _, z, _⟩ => z.elim⟩
theorem np_of {d : DefT} {c : FDef} (hc : p.get d.f = some c) (h : d.ok T p = true) : c.np = d.ps.length := by
  unfold DefT.ok at h
  rw [hc] at h
  simp only [Bool.and_eq_true, decide_eq_true_eq] at h
  exact h.1.1.1.1.1.1.1.1.1.2
theorem lamCk_of {d : DefT} (h : d.ok T p = true) : lamCk T d.f (defScope d.stmt).names = true := by
  unfold DefT.ok at h
  split at h
  · cases h
  · rw [Bool.and_eq_true] at h
    exact h.2
theorem get_of {d : DefT} (h : d.ok T p = true) : ∃ c, p.get d.f = some c := by
  unfold DefT.ok at h
  cases e : p.get d.f with
  | none => rw [e] at h; cases h
  | some c => exact ⟨c, rfl⟩
section
variable {at_ : Nat → Option (DefT × Addr × FuncData)}
/-- all defs, with n calls one within another -/
noncomputable def AllN (P : Program) (w : World) (K : PySem.W.Frag) (mg : Str → Option Value) (base : Heap) (cl : ClsT) (p : Prog3) (kit : String ⊕ Nat → String ⊕ Nat → Option Bool) (at_ : Nat → Option (DefT × Addr × FuncData)) (n : Nat) : Prop := ∀ f d a fd, at_ f = some (d, a, fd) → FnOkG P w K mg base (L2.CX P w) (lv n) a fd d.ps (spC K cl d.ps.length (wpN p kit n f))
theorem factsB_of (hcP : cl.P = P) (hcw : cl.w = w) (M : Names3 T K mg cl p kit at_) (n : Nat) (ih : ∀ m, m ≤ n → AllN P w K mg base cl p kit at_ m) (lam : Nat → SemA → SemF) (act : SemA) (c2 m2 : Nat → SemF) : FactsB T P w K mg base cl ⟨wpN p kit n, (gA p kit n act0).make, kit, lam, act, c2, m2⟩ (lv n) := by
  have atF : ∀ g d a fd, at_ g = some (d, a, fd) → FnAt P w K mg base cl T (wpN p kit n g) (lv n) g a := fun g d a fd hg =>
    ⟨fd, d.ps, d.ps.length, ih n (Nat.le_refl _) g d a fd hg, fun m ks np' gg hs => (M.defs g d a fd hg).2.2.2 m ks np' gg hs⟩
  refine ⟨by (unfold lv; omega), hcP, hcw, fun x f hx => ?_, M.cls, fun c f hf => ?_, fun c f hf => ?_, fun c f hf => ?_, fun c f hf => ?_, M.xcl, M.xkit, fun c m f hf => ?_, M.glb, M.blt, M.attr, M.kit_, M.kitc, M.exc, M.tch, by rw [← hcw]; exact M.gdc, M.lamS, M.lamI, M.lamU⟩
  · obtain ⟨d, a, fd, h1, h2⟩ := M.fn x f hx
    exact ⟨a, h2, (M.defs f d a fd h1).2.1.kp, atF f d a fd h1⟩
  · obtain ⟨Ca, d, a, fd, h1, h2, h3⟩ := M.init c f hf
    refine ⟨Ca, a, h1, h3, fd, d.ps, d.ps.length, ?_, fun m ks np' gg hs => (M.defs f d a fd h2).2.2.2 m ks np' gg hs⟩
    cases n with
    | zero => exact .inl fun _ _ _ _ z => z
    | succ m => exact .inr ⟨lv m, ih m (Nat.le_succ _) f d a fd h2, by (unfold lv; omega)⟩
  · obtain ⟨Ca, d, a, fd, h1, h2, h3⟩ := M.own c f hf
    refine ⟨Ca, a, h1, h3, fd, d.ps, d.ps.length, ?_⟩
    cases n with
    | zero => exact ⟨0, ⟨fun vs H Q E ⟨_, _, _, _, _, _, _, z, _⟩ => z.elim, fun A outer s H args us vs Q E _ _ _ _ _ ⟨_, _, _, _, _, _, _, z, _⟩ => z.elim⟩, by (unfold lv; omega), fun m ks np' gg hs => (M.defs f d a fd h2).2.2.2 m ks np' gg hs⟩
    | succ m => exact ⟨lv m, ih m (Nat.le_succ _) f d a fd h2, by (unfold lv; omega), fun m ks np' gg hs => (M.defs f d a fd h2).2.2.2 m ks np' gg hs⟩
  · obtain ⟨Ca, d, a, fd, h1, h2, h3⟩ := M.ownL c f hf
    refine ⟨Ca, a, h1, h3, fd, d.ps, d.ps.length, ?_⟩
    cases n with
    | zero => exact ⟨0, ⟨fun vs H Q E ⟨_, _, _, _, _, _, _, z, _⟩ => z.elim, fun A outer s H args us vs Q E _ _ _ _ _ ⟨_, _, _, _, _, _, _, z, _⟩ => z.elim⟩, by (unfold lv; omega), fun m ks np' gg hs => (M.defs f d a fd h2).2.2.2 m ks np' gg hs⟩
    | succ m => exact ⟨lv m, ih m (Nat.le_succ _) f d a fd h2, by (unfold lv; omega), fun m ks np' gg hs => (M.defs f d a fd h2).2.2.2 m ks np' gg hs⟩
  · obtain ⟨Ca, d, a, fd, h1, h2, h3⟩ := M.ownB c f hf
    exact ⟨Ca, a, h1, h3, atF f d a fd h2⟩
  · obtain ⟨Ca, d, a, fd, h1, h2, h3, h4⟩ := M.mth c m f hf
    exact ⟨Ca, a, h1, h3, h4, atF f d a fd h2⟩
theorem factsA_of (hcP : cl.P = P) (hcw : cl.w = w) (M : Names3 T K mg cl p kit at_) (n : Nat) (ih : ∀ m, m ≤ n → AllN P w K mg base cl p kit at_ m) (act : SemA) : Facts T P w K mg base cl (gA p kit n act) (lv n) := ⟨factsB_of hcP hcw M n ih _ _ _ _, .inl fun _ _ _ _ _ _ z => z⟩
/-- the defs that call what they are given -/
theorem lamD_of (hcP : cl.P = P) (hcw : cl.w = w) (M : Names3 T K mg cl p kit at_) (n : Nat) (ih : ∀ m, m ≤ n → AllN P w K mg base cl p kit at_ m) : ∀ x g, T.lamD x = some g → ∃ a, mg x = some (.ref a) ∧ PySem.W.keepIn K (.ref a) = true ∧ LamAt P w K mg base cl (lv n) a (wpL p kit (wpN p kit n) (gA p kit n act0).make g) := fun x g hx => by
  obtain ⟨d, a, fd, h1, h2, h3, h4, h5⟩ := M.lamD x g hx
  obtain ⟨e, A, ok, _⟩ := M.defs g d a fd h1
  obtain ⟨c, hc⟩ := get_of ok
  have q := lam_step (fun act => factsA_of hcP hcw M n ih act) A hc ok h5 h3 h4
  rw [e] at q
  exact ⟨a, h2, A.kp, q⟩
theorem factsN_of (hcP : cl.P = P) (hcw : cl.w = w) (M : Names3 T K mg cl p kit at_) (n : Nat) (ih : ∀ m, m ≤ n → AllN P w K mg base cl p kit at_ m) : Facts T P w K mg base cl (gN p kit n) (lv n) := by
  match n, ih with
  | 0, ih => exact ⟨factsB_of hcP hcw M 0 ih _ _ _ _, .inl fun _ _ _ _ _ _ z => z⟩
  | 1, ih => exact ⟨factsB_of hcP hcw M 1 ih _ _ _ _, .inl fun _ _ _ _ _ _ z => z⟩
  | 2, ih => exact ⟨factsB_of hcP hcw M 2 ih _ _ _ _, .inr ⟨lv 0, rfl, factsB_of hcP hcw M 0 (fun m hm => ih m (by omega)) _ _ _ _, lamD_of hcP hcw M 0 fun m hm => ih m (by omega)⟩⟩
  | m + 3, ih => exact ⟨factsB_of hcP hcw M (m + 3) ih _ _ _ _, .inr ⟨lv (m + 1), rfl, factsB_of hcP hcw M (m + 1) (fun m' hm => ih m' (by omega)) _ _ _ _, lamD_of hcP hcw M (m + 1) fun m' hm => ih m' (by omega)⟩⟩
/-- ALL DEFS keep the promise that their clean form says -/
theorem all_upto (hcP : cl.P = P) (hcw : cl.w = w) (M : Names3 T K mg cl p kit at_) (htb : ∀ r ∈ cl.tb, LamX.TabB base mg r.c r.P) : ∀ n m, m ≤ n → AllN P w K mg base cl p kit at_ m
  | 0, m, hm => by
    cases Nat.le_zero.mp hm
    exact fun f d a fd _ => none_at rfl
  | n + 1, m, hm => by
    by_cases h : m ≤ n
    · exact all_upto hcP hcw M htb n m h
    · have e : m = n + 1 := by omega
      subst e
      intro f d a fd h
      obtain ⟨e, A, ok, _⟩ := M.defs f d a fd h
      obtain ⟨c, hc⟩ := get_of ok
      have np := np_of hc ok
      have q := def_step (factsN_of hcP hcw M n (all_upto hcP hcw M htb n)) A hc ok (M.lamC f d a fd h) htb
      rw [np, e] at q
      have e2 : lv (n + 1) = lv n + 1 := by (unfold lv; omega)
      rw [e2]
      exact q
theorem all_defs (hcP : cl.P = P) (hcw : cl.w = w) (M : Names3 T K mg cl p kit at_) (htb : ∀ r ∈ cl.tb, LamX.TabB base mg r.c r.P) : ∀ n f d a fd, at_ f = some (d, a, fd) → FnOkG P w K mg base (L2.CX P w) (lv n) a fd d.ps (spC K cl d.ps.length (wpN p kit n f)) := fun n => all_upto hcP hcw M htb n n (Nat.le_refl _)
end
end
end L3
namespace L3
open PySem L2 PyProof.Rows
noncomputable def Tb0 (cs : List (Addr × Addr)) (H : Hp) : Prop := ∀ p ∈ cs, H p.2 = some (.tbl #[])
/-- tracked are the script and the tables alone -/
noncomputable def OnlyT (cs : List (Addr × Addr)) (H : Hp) : Prop := ∀ b, H b = none ∨ (∃ p ∈ cs, b = p.2) ∨ ∃ o xs, H b = some (.frz o (.lst xs))
theorem law_callT {P : Program} {w : World} {K : PySem.W.Frag} {mg mb : Str → Option Value} {CXx : CXT} {k : Nat} {fa a : Addr} {fd : FuncData} {x : Str} {sp : Sp} {s₁ : Shared} {vs : List Value} {ns : List Int} {cs : List (Addr × Addr)} (KX : K.In s₁.heap) (hns : s₁.heap.Ns mainGlobals mg)
    (hbn : s₁.heap.Ns builtinsNs mb) (hbb : ∀ y : Str, y ≠ "__name__" → mb y = bootBuiltins y) (lim : s₁.heap.NoLimit) (gens : s₁.gens = #[]) (ha : s₁.heap.get? a = some { cls := .type "list", data := .seq vs.toArray }) (hi : IntsAre vs ns) (hl : ns.length ≤ sizeLine)
    (hT : ∀ p ∈ cs, s₁.heap.get? p.2 = some { cls := .none, data := .fields #[] }) (nT : ∀ p ∈ cs, K.lookup p.2 = none) (hC : ∀ p ∈ cs, PySem.W.codeHdIn K p.1 p.2 = true)
    (hbm : ∃ (bm : Addr) (ob : Obj), mg "__builtins__" = some (.ref bm) ∧ bm ≠ builtinsNs ∧ s₁.heap.get? bm = some ob ∧ ob.cls = .type "module" ∧ ob.dict = some builtinsNs ∧ ob.data = .plain)
    (room : Room k callerA) (F : ∀ base : Heap, K.In base → base.Ns mainGlobals mg → (∀ p ∈ cs, LamX.TabB base mg p.1 p.2) → FnOkG P w K mg base CXx k fa fd [x] sp) (bind : ∀ (s : Shared) (u : Value), BindsTo s fd ⟨[u], []⟩ [(x, u)])
    (hsp : ∀ H : Hp, Tb0 cs H → OnlyT cs H → SqL K H a (ns.map V.int) → sp [.ref a] H (fun v _ => v = .bl true) fun _ _ _ => False) (hCX : ∀ H e s', CXx [] H s₁ (fun _ _ _ => False) e s' → False) :
    codeAny (model P w) callerA (.call (.ref fa) ⟨[.ref a], []⟩) (fun r s' => r = .ok (.ret (.bool true)) ∧ OldK s₁.heap s'.heap ∧ s'.os = s₁.os ∧ AllBare s'.gens) s₁ := by
  have rv := vals_ints hi
  have lenV := hi.length
  have offA : ∀ p ∈ cs, p.2 ≠ a := fun p hp e => by
    have q := hT p hp
    rw [e, ha] at q
    cases q
  have main : ∀ H : Hp, Tb0 cs H → OnlyT cs H → SqL K H a (ns.map V.int) → HOk P w H s₁.heap → (∀ b u, H b = some u → (b = a ∧ K.lookup a = none) ∨ ∃ p ∈ cs, b = p.2) →
      codeAny (model P w) callerA (.call (.ref fa) ⟨[.ref a], []⟩) (fun r s' => r = .ok (.ret (.bool true)) ∧ OldK s₁.heap s'.heap ∧ s'.os = s₁.os ∧ AllBare s'.gens) s₁ := by
    intro H tb0 only sq hok one
    have loose : ∀ {b : Addr} {o : Obj}, s₁.heap.get? b = some o → (∀ us m, o.data ≠ .seq us m) → (∀ us, o.data ≠ .fields us) → H b = none := fun {b o} e n1 n2 => by
      cases q : H b with
      | none => rfl
      | some u =>
        rcases one b u q with ⟨e', _⟩ | ⟨p, hp, e'⟩
        · rw [e', ha] at e
          cases e
          exact (n1 _ _ rfl).elim
        · rw [e', hT p hp] at e
          cases e
          exact (n2 _ rfl).elim
    have hids : ∀ {b : Addr} {m : Str → Option Value}, s₁.heap.Ns b m → (hidT s₁.heap H).Ns b m := by
      rintro b m ⟨o, es, ep, e, d, r⟩
      exact ⟨o, es, ep, hidT_get e (loose e (fun us m z => by rw [d] at z; cases z) fun us z => by rw [d] at z; cases z), d, r⟩
    have hKb : K.In (hidT s₁.heap H) := fun b o e => hidT_get (KX b o e) (by
      cases q : H b with
      | none => rfl
      | some u =>
        rcases one b u q with ⟨e', z⟩ | ⟨p, hp, e'⟩
        · rw [e', z] at e
          cases e
        · rw [e', nT p hp] at e
          cases e)
    have TB : ∀ p ∈ cs, LamX.TabB (hidT s₁.heap H) mg p.1 p.2 := fun p hp => by
      obtain ⟨bm, ob, b1, b2, b3, b4, b5, b6⟩ := hbm
      obtain ⟨og, eg, pg, g1, g2, _⟩ := hns
      refine ⟨PySem.W.codeHd_of_K hKb (hC p hp), ⟨bm, ob, b1, b2, fun z => ?_, fun z => ?_, hidT_get b3 (loose b3 (fun us m z => by rw [b6] at z; cases z) fun us z => by rw [b6] at z; cases z), b4, b5, b6⟩, fun z => ?_⟩
      · rw [z, g1] at b3
        cases b3
        rw [g2] at b6
        cases b6
      · rw [z, hT p hp] at b3
        cases b3
        cases b6
      · rw [z, hT p hp] at g1
        cases g1
        cases g2
    have e0 : Env0 P w K mg (hidT s₁.heap H) callerA [] s₁ H := by
      refine ⟨rfl, ⟨hKb, hids hns, ⟨mb, hids hbn, hbb⟩, ?_⟩, fun b o e => of_hidT e, Nat.le_of_eq (hidT_size _ _), trivial, fun b hb => (nomatch (show b ∈ ([] : List Addr) from hb)), hok, .of_eq gens⟩
      obtain ⟨mc, h1, h2⟩ := lim
      exact ⟨mc, hids h1, h2⟩
    refine codeAny_mono ((F _ hKb (hids hns) TB).run callerA [] s₁ H _ [.ref a] [.ref a] _ _ room rfl e0 (bind s₁ (.ref a)) (.cons rfl .nil) (hsp H tb0 only sq)) fun r s' h => ?_
    match r, h with
    | .error e, h => exact (hCX H e s' h).elim
    | .ok (.ret u), ⟨v, H', os, bare, un, hok', r', q⟩ =>
      have q' : v = .bl true := q
      subst q'
      cases (show u = Value.bool true from r')
      have tabs : ∀ p ∈ cs, ∃ more : Array Value, s'.heap.get? p.2 = some { cls := .none, data := .fields more } := fun p hp => by
        obtain ⟨more, z⟩ := un.tbls p.2 #[] (tb0 p hp)
        exact ⟨_, hok' p.2 _ z⟩
      have rest : ∀ b o, (¬ ∃ p ∈ cs, b = p.2) → s₁.heap.get? b = some o → s'.heap.get? b = some o := fun b o nb e => by
        rcases only b with z | z | ⟨ob, xs, z⟩
        · exact un.keep b o e z (fun z => (nomatch (show b ∈ ([] : List Addr) from z))) (by simp)
        · exact (nb z).elim
        · have e1 := (hok b _ z).1
          have e2 := (hok' b _ (un.frzs b ob _ z)).1
          rw [e1] at e; cases e
          exact e2
      refine ⟨rfl, ⟨fun b o e => ?_, fun b o e => ?_⟩, os, bare⟩
      · by_cases hb : ∃ p ∈ cs, b = p.2
        · obtain ⟨p, hp, rfl⟩ := hb
          obtain ⟨more, hm⟩ := tabs p hp
          rw [hT p hp] at e
          cases e
          exact .inr (.inl ⟨((PySem.W.codeHd_of_K KX (hC p hp)).tab (hT p hp)).isCodeTable, rfl, #[], more, rfl, by rw [Array.empty_append]; exact hm⟩)
        · exact .inl (rest b o hb e)
      · by_cases hb : ∃ p ∈ cs, b = p.2
        · obtain ⟨p, hp, rfl⟩ := hb
          obtain ⟨more, hm⟩ := tabs p hp
          exact ⟨_, hm⟩
        · exact ⟨o, rest b o hb e⟩
  -- the tables, and the script where it is not of the module
  classical
  let T0 : Hp := fun b => if ∃ p ∈ cs, b = p.2 then some (.tbl #[]) else none
  have T0t : ∀ p ∈ cs, T0 p.2 = some (.tbl #[]) := fun p hp => if_pos ⟨p, hp, rfl⟩
  have T0a : T0 a = none := if_neg fun ⟨p, hp, e⟩ => offA p hp e.symm
  have T0o : ∀ b u, T0 b = some u → (∃ p ∈ cs, b = p.2) ∧ u = .tbl #[] := fun b u z => by
    by_cases h : ∃ p ∈ cs, b = p.2
    · rw [show T0 b = some (.tbl #[]) from if_pos h] at z; cases z; exact ⟨h, rfl⟩
    · rw [show T0 b = none from if_neg h] at z; cases z
  have okT : ∀ {H : Hp} (p : Addr × Addr), p ∈ cs → ObjOk P w H s₁.heap p.2 (.tbl #[]) := fun {H} p hp => hT p hp
  cases hk : K.lookup a with
  | some o =>
    have e := KX a o hk
    rw [ha] at e
    cases e
    refine main T0 T0t (fun b => ?_) (.inr ⟨_, vs.toArray, _, hk, rfl, rfl, rfl, ?_, by simpa using rv⟩) (fun b u z => ?_) fun b u z => .inr (T0o b u z).1
    · by_cases h : ∃ p ∈ cs, b = p.2
      · exact .inr (.inl h)
      · exact .inl (if_neg h)
    · rw [List.size_toArray, lenV]; exact hl
    · obtain ⟨⟨p, hp, rfl⟩, rfl⟩ := T0o b u z
      exact okT p hp
  | none =>
    have fr : ∀ b u, upd T0 a (HO.frz { cls := .type "list", data := .seq vs.toArray } (.lst (ns.map V.int))) b = some u → (b = a ∧ u = HO.frz { cls := .type "list", data := .seq vs.toArray } (.lst (ns.map V.int))) ∨ (b ≠ a ∧ T0 b = some u) := fun b u z => by
      by_cases h : b = a
      · rw [h, upd_same] at z; cases z; exact .inl ⟨h, rfl⟩
      · rw [upd_ne h] at z; exact .inr ⟨h, z⟩
    refine main (upd T0 a (.frz { cls := .type "list", data := .seq vs.toArray } (.lst (ns.map V.int)))) (fun p hp => by rw [upd_ne (offA p hp)]; exact T0t p hp) (fun b => ?_) (.inl (.inr ⟨_, upd_same⟩)) (fun b u z => ?_) fun b u z => ?_
    · by_cases h : b = a
      · exact .inr (.inr ⟨_, _, by rw [h]; exact upd_same⟩)
      · by_cases h2 : ∃ p ∈ cs, b = p.2
        · exact .inr (.inl h2)
        · exact .inl (by rw [upd_ne h]; exact if_neg h2)
    · rcases fr b u z with ⟨rfl, rfl⟩ | ⟨_, z⟩
      · exact ⟨ha, by rw [List.length_map]; exact hl, vs, _, rv, ha⟩
      · obtain ⟨⟨p, hp, rfl⟩, rfl⟩ := T0o b u z
        exact okT p hp
    · rcases fr b u z with ⟨e, _⟩ | ⟨_, z⟩
      · exact .inl ⟨e, hk⟩
      · exact .inr (T0o b u z).1
end L3
namespace L3
open PySem L2
noncomputable def AllP {α : Type} (P : α → Prop) : List α → Prop
  | [] => True
  | x :: xs => P x ∧ AllP P xs
theorem AllP.mem {α : Type} {P : α → Prop} {x : α} : ∀ {xs : List α}, AllP P xs → x ∈ xs → P x
  | y :: ys, ⟨h, t⟩, m => by
    rcases List.mem_cons.mp m with e | m
    · subst e; exact h
    · exact AllP.mem t m
noncomputable def look {α β : Type} [DecidableEq α] (xs : List (α × β)) (x : α) : Option β := (xs.find? fun q => decide (q.1 = x)).map (·.2)
theorem look_mem {α β : Type} [DecidableEq α] {xs : List (α × β)} {x : α} {y : β} (h : look xs x = some y) : (x, y) ∈ xs := by
  unfold look at h
  obtain ⟨q, h1, h2⟩ := Option.map_eq_some_iff.mp h
  have h3 := List.find?_some h1
  have h4 := List.mem_of_find?_eq_some h1
  simp only [decide_eq_true_eq] at h3
  obtain ⟨a, b⟩ := q
  simp only at h2 h3
  subst h2 h3
  exact h4
noncomputable def idxN : List (List (Str × NameKind)) → List (Str × NameKind) → Option Nat
  | [], _ => none
  | x :: xs, l => if x = l then some 0 else (idxN xs l).map (· + 1)
theorem idxN_some {l : List (Str × NameKind)} : ∀ {xs : List (List (Str × NameKind))} {j : Nat}, idxN xs l = some j → xs[j]? = some l
  | [], j, h => by cases h
  | x :: xs, j, h => by
    unfold idxN at h
    split at h
    · rename_i e
      cases h
      rw [e]; rfl
    · obtain ⟨i, h1, h2⟩ := Option.map_eq_some_iff.mp h
      subst h2
      exact (List.getElem?_cons_succ).trans (idxN_some h1)
theorem idxN_mem {l : List (Str × NameKind)} : ∀ {xs : List (List (Str × NameKind))}, l ∈ xs → idxN xs l ≠ none
  | x :: xs, h, e => by
    unfold idxN at e
    split at e
    · cases e
    · rename_i ne
      rcases List.mem_cons.mp h with z | z
      · exact ne z.symm
      · exact idxN_mem z (by simpa using e)
structure TabL where
  fn : List (Str × Nat) := []
  cls : List (Str × Nat) := []
  glb : List (Str × D) := []
  blt : List Str := []
  shape : List ((Nat × Nat × List Str) × (Nat × List Src)) := []
  init : List (Nat × Nat) := []
  own : List (Nat × Nat) := []
  ownL : List (Nat × Nat) := []
  ownB : List (Nat × Nat) := []
  xcl : List Nat := []
  xkit : List ((Nat × (String ⊕ Nat)) × Bool) := []
  mth : List ((Nat × Str) × Nat) := []
  attr : List (Nat × Str) := []
  exc : List Nat := []
  tch : List (Str × List Nat) := []
  gdc : List (Str × List (Str × GV)) := []
  lamD : List (Str × Nat) := []
  lamS : List (List (Str × NameKind)) := []
  lamM : List (Nat × Nat) := []
noncomputable def TabL.tab (L : TabL) : Tab where
  fn := look L.fn
  cls := look L.cls
  glb := look L.glb
  blt := fun x => decide (x ∈ L.blt)
  shape := fun f m ks => look L.shape (f, m, ks)
  init := look L.init
  own := look L.own
  ownL := look L.ownL
  ownB := look L.ownB
  xcl := fun c => decide (c ∈ L.xcl)
  xkit := fun c u => look L.xkit (c, u)
  mth := fun c m => look L.mth (c, m)
  attr := fun c f => decide ((c, f) ∈ L.attr)
  exc := fun c => decide (c ∈ L.exc)
  tch := fun x cs => decide ((x, cs) ∈ L.tch)
  gdc := look L.gdc
  lamD := look L.lamD
  lamS := idxN L.lamS
  lamM := look L.lamM
noncomputable abbrev Kit := List ((String ⊕ Nat) × (String ⊕ Nat) × Bool)
noncomputable def Kit.get (k : Kit) (t u : String ⊕ Nat) : Option Bool := (k.find? fun q => decide (q.1 = t) && decide (q.2.1 = u)).map (·.2.2)
theorem Kit.get_mem {k : Kit} {t u : String ⊕ Nat} {b : Bool} (h : k.get t u = some b) : (t, u, b) ∈ k := by
  unfold Kit.get at h
  obtain ⟨q, h1, h2⟩ := Option.map_eq_some_iff.mp h
  have h3 := List.find?_some h1
  have h4 := List.mem_of_find?_eq_some h1
  simp only [Bool.and_eq_true, decide_eq_true_eq] at h3
  obtain ⟨a, c, d⟩ := q
  obtain ⟨h5, h6⟩ := h3
  simp only at h2 h5 h6
  subst h2 h5 h6
  exact h4
/-- the kinds of data, one of another -/
noncomputable def kitPlain : Kit := [(.inl "NoneType", .inl "int", false), (.inl "bool", .inl "int", true), (.inl "int", .inl "int", true), (.inl "str", .inl "int", false), (.inl "tuple", .inl "int", false), (.inl "list", .inl "int", false), (.inl "dict", .inl "int", false),
  (.inl "NoneType", .inl "bool", false), (.inl "bool", .inl "bool", true), (.inl "int", .inl "bool", false), (.inl "str", .inl "bool", false), (.inl "tuple", .inl "bool", false), (.inl "list", .inl "bool", false), (.inl "dict", .inl "bool", false),
  (.inl "NoneType", .inl "str", false), (.inl "bool", .inl "str", false), (.inl "int", .inl "str", false), (.inl "str", .inl "str", true), (.inl "tuple", .inl "str", false), (.inl "list", .inl "str", false), (.inl "dict", .inl "str", false),
  (.inl "NoneType", .inl "tuple", false), (.inl "bool", .inl "tuple", false), (.inl "int", .inl "tuple", false), (.inl "str", .inl "tuple", false), (.inl "tuple", .inl "tuple", true), (.inl "list", .inl "tuple", false), (.inl "dict", .inl "tuple", false),
  (.inl "NoneType", .inl "list", false), (.inl "bool", .inl "list", false), (.inl "int", .inl "list", false), (.inl "str", .inl "list", false), (.inl "tuple", .inl "list", false), (.inl "list", .inl "list", true), (.inl "dict", .inl "list", false)]
noncomputable def KitP (K : PySem.W.Frag) (cl : ClsT) (q : (String ⊕ Nat) × (String ⊕ Nat) × Bool) : Prop := ∀ vt, tyVal cl q.1 = some vt → ∃ vu, tyVal cl q.2.1 = some vu ∧ PySem.W.kitOne K vt vu = some q.2.2
theorem kitP_ty {K : PySem.W.Frag} {cl : ClsT} {t u : String} {b : Bool} (h : PySem.W.kitOne K (.type t) (.type u) = some b) : KitP K cl (.inl t, .inl u, b) := fun vt e => by
  have e' : vt = .type t := (Option.some.inj e).symm
  rw [e']
  exact ⟨_, rfl, h⟩
section
variable {K : PySem.W.Frag} {mg : Str → Option Value} {cl : ClsT}
/-- the defs, numbered from i -/
noncomputable def Ents (K : PySem.W.Frag) (T : Tab) (p : Prog3) : Nat → List (DefT × Addr × FuncData) → Prop
  | _, [] => True
  | i, e :: r => (e.1.f = i ∧ DefAt K e.1 e.2.1 e.2.2 ∧ e.1.ok T p = true) ∧ Ents K T p (i + 1) r
theorem Ents.get {T : Tab} {p : Prog3} {e : DefT × Addr × FuncData} : ∀ (E : List (DefT × Addr × FuncData)) (i j : Nat), Ents K T p i E → E[j]? = some e → e.1.f = i + j ∧ DefAt K e.1 e.2.1 e.2.2 ∧ e.1.ok T p = true := by
  intro E
  induction E with
  | nil => intro i j _ q; simp at q
  | cons a r ih =>
    intro i j h q
    cases j with
    | zero =>
      simp only [List.getElem?_cons_zero, Option.some.injEq] at q
      rw [← q]
      exact h.1
    | succ j =>
      have := ih (i + 1) j h.2 (by simpa using q)
      rw [show i + 1 + j = i + (j + 1) by omega] at this
      exact this
/-- what a class is good for that is raised -/
structure ExcK (K : PySem.W.Frag) (Ca : Addr) : Prop where
  x1 : PySem.W.excIn K Ca [.type "ValueError", .type "Exception", .type "BaseException", .type "object"] "ValueError.__new__" = true
  x2 : PySem.W.keepIn K (.ref Ca) = true
  x3 : PySem.W.subIn K (.ref Ca) (.type "BaseException") = some true
  x4 : PySem.W.typeIn K (.ref Ca) = some (.type "type")
noncomputable abbrev clL (P : Program) (w : World) (CL : List Addr) (TB : List LamR) : ClsT := ⟨fun c => CL[c]?, P, w, TB⟩
structure LawN (P : Program) (w : World) (L : TabL) (K : PySem.W.Frag) (mg : Str → Option Value) (CL : List Addr) (TB : List LamR) (p : Prog3) (kit : Kit) (E : List (DefT × Addr × FuncData)) : Prop where
  ents : Ents K L.tab p 0 E
  shape : AllP (fun q => ∃ e, E[q.1.1]? = some e ∧ q.2.1 = e.1.ps.length ∧ BindsC K e.2.2 e.1.ps q.1.2.1 q.1.2.2 q.2.2) L.shape
  fn : AllP (fun q => ∃ e, E[q.2]? = some e ∧ mg q.1 = some (.ref e.2.1)) L.fn
  cls : AllP (fun q => ∃ Ca, CL[q.2]? = some Ca ∧ mg q.1 = some (.ref Ca)) L.cls
  init : AllP (fun q => ∃ Ca e, CL[q.1]? = some Ca ∧ E[q.2]? = some e ∧ Mk K Ca e.2.1) L.init
  own : AllP (fun q => ∃ Ca e, CL[q.1]? = some Ca ∧ E[q.2]? = some e ∧ OwnEX K Ca e.2.1) L.own
  ownL : AllP (fun q => ∃ Ca e, CL[q.1]? = some Ca ∧ E[q.2]? = some e ∧ OwnL K Ca e.2.1) L.ownL
  ownB : AllP (fun q => ∃ Ca e, CL[q.1]? = some Ca ∧ E[q.2]? = some e ∧ OwnB K Ca e.2.1) L.ownB
  xcl : AllP (fun c => ∀ Ca, CL[c]? = some Ca → ExcC K Ca) L.xcl
  xkit : AllP (fun q => ∀ Ca, CL[q.1.1]? = some Ca → ∃ vu, tyVal (clL P w CL TB) q.1.2 = some vu ∧ PySem.W.kitOne K (.ref Ca) vu = some q.2) L.xkit
  mth : AllP (fun q => ∃ Ca e, CL[q.1.1]? = some Ca ∧ E[q.2]? = some e ∧ Cls K Ca ∧ Meth K Ca q.1.2 e.2.1) L.mth
  glb : AllP (fun q => ∃ u v, mg q.1 = some u ∧ RelV v u ∧ ∀ H, Rep K H q.2 v) L.glb
  blt : AllP (fun x => mg x = none) L.blt
  attr : AllP (fun q => ∀ Ca, CL[q.1]? = some Ca → Cls K Ca ∧ NoAttr K Ca q.2) L.attr
  kit_ : AllP (KitP K (clL P w CL TB)) kit
  kitc : AllP (fun q => ∀ c Ca, q.1 = .inr c → CL[c]? = some Ca → ClsOk K Ca) kit
  exc : AllP (fun c => ∀ Ca, CL[c]? = some Ca → ExcK K Ca) L.exc
  tch : AllP (fun q : Str × List Nat => ∃ c, (mg q.1 = some c ∨ (mg q.1 = none ∧ bootBuiltins q.1 = some c ∧ q.1 ≠ ("__name__" : Str))) ∧ SubOk K (clL P w CL TB) c fun i => decide (i ∈ q.2)) L.tch
  gdc : AllP (fun q => ∃ p, mg q.1 = some (.ref p) ∧ WDct K w p q.2 ∧ ∃ es m, K.lookup p = some ⟨.type "dict", none, .dict es m, #[]⟩) L.gdc
  lamD : AllP (fun q => ∃ e, E[q.2]? = some e ∧ mg q.1 = some (.ref e.2.1) ∧ BindsC K e.2.2 e.1.ps 1 [] [.pos 0] ∧ e.1.ps.length = 1 ∧ L.tab.lamS (defScope e.1.stmt).names = none) L.lamD
  lamS : TB.map (·.names) = L.lamS
  lamN : L.lamS.Nodup
  lamU : ∀ r ∈ TB, ∀ p ∈ TB, p.P = r.P → p.q = r.q
  lamM : AllP (fun q : Nat × Nat => ∃ (e : DefT × Addr × FuncData) (r : LamR), E[q.1]? = some e ∧ TB[q.2]? = some r ∧ e.2.2.code = .ref r.c ∧ e.1.qual ++ (".<locals>." : Str) ++ ("<lambda>" : Str) = r.q) L.lamM
theorem LawN.names {P : Program} {w : World} {L : TabL} {CL : List Addr} {TB : List LamR} {p : Prog3} {kit : Kit} {E : List (DefT × Addr × FuncData)} (W : LawN P w L K mg CL TB p kit E) : Names3 L.tab K mg (clL P w CL TB) p kit.get (fun f => E[f]?) := by
  refine ⟨fun f d a fd h => ?_, fun x f h => ?_, fun x c h => ?_, fun c f h => ?_, fun c f h => ?_, fun c f h => ?_, fun c f h => ?_, fun c Ca h hc => ?_, fun c u b Ca h hc => ?_, fun c m f h => ?_, fun x d h => ?_, fun x h => ?_, fun c f Ca h hc => ?_, fun t u b vt h1 h2 => ?_, fun c u b Ca h hc => ?_, fun c Ca h hc => ?_, fun x cs h => ?_, fun x tab h => ?_, fun x g h => ?_, fun l j h => ?_, fun j r h => ?_, W.lamU, fun f d a fd h r hr e => ?_⟩
  · obtain ⟨h1, h2, h3⟩ := Ents.get _ _ _ W.ents h
    refine ⟨by simpa using h1, h2, h3, fun m ks np g hs => ?_⟩
    obtain ⟨e, e1, e2, e3⟩ := W.shape.mem (look_mem hs)
    simp only at e1 e2 e3
    rw [h] at e1
    cases e1
    exact ⟨e2, e3⟩
  · obtain ⟨⟨d, a, fd⟩, e1, e2⟩ := W.fn.mem (look_mem h)
    exact ⟨d, a, fd, e1, e2⟩
  · exact W.cls.mem (look_mem h)
  · obtain ⟨Ca, ⟨d, a, fd⟩, e1, e2, e3⟩ := W.init.mem (look_mem h)
    exact ⟨Ca, d, a, fd, e1, e2, e3⟩
  · obtain ⟨Ca, ⟨d, a, fd⟩, e1, e2, e3⟩ := W.own.mem (look_mem h)
    exact ⟨Ca, d, a, fd, e1, e2, e3⟩
  · obtain ⟨Ca, ⟨d, a, fd⟩, e1, e2, e3⟩ := W.ownL.mem (look_mem h)
    exact ⟨Ca, d, a, fd, e1, e2, e3⟩
  · obtain ⟨Ca, ⟨d, a, fd⟩, e1, e2, e3⟩ := W.ownB.mem (look_mem h)
    exact ⟨Ca, d, a, fd, e1, e2, e3⟩
  · exact W.xcl.mem (of_decide_eq_true h) Ca hc
  · exact W.xkit.mem (look_mem h) Ca hc
  · obtain ⟨Ca, ⟨d, a, fd⟩, e1, e2, e3, e4⟩ := W.mth.mem (look_mem h)
    exact ⟨Ca, d, a, fd, e1, e2, e3, e4⟩
  · exact W.glb.mem (look_mem h)
  · exact W.blt.mem (of_decide_eq_true h)
  · exact W.attr.mem (of_decide_eq_true h) Ca hc
  · exact W.kit_.mem (Kit.get_mem h1) vt h2
  · exact W.kitc.mem (Kit.get_mem h) c Ca rfl hc
  · have q := W.exc.mem (of_decide_eq_true h) Ca hc
    exact ⟨q.x1, q.x2, q.x3, q.x4⟩
  · exact W.tch.mem (of_decide_eq_true h)
  · exact W.gdc.mem (look_mem h)
  · obtain ⟨⟨d, a, fd⟩, e1, e2, e3, e4, e5⟩ := W.lamD.mem (look_mem h)
    refine ⟨d, a, fd, e1, e2, e3, e4, fun r hr e => ?_⟩
    have m : (defScope d.stmt).names ∈ L.lamS := by rw [← W.lamS, ← e]; exact List.mem_map.mpr ⟨r, hr, rfl⟩
    exact idxN_mem m e5
  · have q := idxN_some h
    rw [← W.lamS, List.getElem?_map] at q
    obtain ⟨r, h1, h2⟩ := Option.map_eq_some_iff.mp q
    exact ⟨r, h1, h2⟩
  · exact idxN_mem (by rw [← W.lamS]; exact List.mem_map.mpr ⟨r, List.mem_of_getElem? h, rfl⟩)
  · obtain ⟨h1, h2, h3⟩ := Ents.get _ _ _ W.ents h
    have ck := lamCk_of h3
    unfold lamCk at ck
    have m : (defScope d.stmt).names ∈ L.lamS := by rw [← W.lamS, ← e]; exact List.mem_map.mpr ⟨r, hr, rfl⟩
    cases q : L.tab.lamS (defScope d.stmt).names with
    | none => exact (idxN_mem m q).elim
    | some j =>
      rw [q] at ck
      have hM := of_decide_eq_true ck
      obtain ⟨e', r', m1, m2, m3, m4⟩ := W.lamM.mem (look_mem hM)
      have hf : d.f = f := by simpa using h1
      simp only at m1 m2
      rw [hf, h] at m1
      cases m1
      have nr : r' = r := by
        have q' := idxN_some q
        obtain ⟨i, hi⟩ := List.getElem?_of_mem hr
        have a1 : L.lamS[i]? = some (defScope d.stmt).names := by rw [← W.lamS, List.getElem?_map, hi]; exact congrArg some e
        have ij : i = j := by
          exact (List.getElem?_inj (List.getElem?_eq_some_iff.mp a1).1 W.lamN).mp (a1.trans q'.symm)
        rw [ij, m2] at hi
        exact Option.some.inj hi
      rw [nr] at m3 m4
      exact ⟨m3, m4⟩
noncomputable def posn (n : Nat) : List Src := (List.range n).map Src.pos
theorem gath_posn : ∀ (ds es : List D), gath (posn ds.length) ds es = ds := fun ds es => by
  unfold gath posn
  rw [List.map_map]
  apply List.ext_getElem
  · simp
  · intro i h1 h2
    simp [Src.get, h2]
/-- all arguments by place -/
theorem len1 {α : Type} {P : List α → Prop} (h : ∀ a0, P [a0]) : ∀ us : List α, us.length = 1 → P us
  | [a0], _ => h a0
theorem len2 {α : Type} {P : List α → Prop} (h : ∀ a0 a1, P [a0, a1]) : ∀ us : List α, us.length = 2 → P us
  | [a0, a1], _ => h a0 a1
theorem len3 {α : Type} {P : List α → Prop} (h : ∀ a0 a1 a2, P [a0, a1, a2]) : ∀ us : List α, us.length = 3 → P us
  | [a0, a1, a2], _ => h a0 a1 a2
theorem len4 {α : Type} {P : List α → Prop} (h : ∀ a0 a1 a2 a3, P [a0, a1, a2, a3]) : ∀ us : List α, us.length = 4 → P us
  | [a0, a1, a2, a3], _ => h a0 a1 a2 a3
theorem len5 {α : Type} {P : List α → Prop} (h : ∀ a0 a1 a2 a3 a4, P [a0, a1, a2, a3, a4]) : ∀ us : List α, us.length = 5 → P us
  | [a0, a1, a2, a3, a4], _ => h a0 a1 a2 a3 a4
theorem bindsC_pos {fd : FuncData} {ps : List Str} (h : ∀ us : List Value, us.length = ps.length → bindArgs fd ⟨us, []⟩ = pure (ps.zip us)) : BindsC K fd ps ps.length [] (posn ps.length) :=
  ⟨fun us _ => us, fun vs _ => vs, fun s us ws _ hl hw => by
    have e : ws = [] := List.eq_nil_of_length_eq_zero hw
    subst e
    exact .of_eq (h us hl), fun r _ => r, fun H ds vs es zs hl _ r _ => by
    rw [← hl, gath_posn]
    exact r⟩
end
/-- what the law's text answers, over data -/
noncomputable def LawTrue (p : Prog3) (kit : Kit) (n f : Nat) : Prop := ∀ ns : List Int, ns.length ≤ 63 → (∀ z ∈ ns, Builtin.Int.intBits z ≤ 1048576) → wpN p kit.get n f [.rls (ns.map D.int)] (fun _ => none) (fun d _ => d = .bl true) fun _ _ => False
noncomputable def spL (K : PySem.W.Frag) (TB : List LamR) : Sp := fun vs H Q _ => ∃ (a : Addr) (ns : List Int), vs = [.ref a] ∧ (∀ r ∈ TB, H r.P = some (.tbl #[])) ∧ RlS K H a (ns.map V.int) ∧ ns.length ≤ 63 ∧ (∀ z ∈ ns, Builtin.Int.intBits z ≤ 1048576) ∧ ∀ H', Q (.bl true) H'
theorem repL_ints {K : PySem.W.Frag} {H : Hp} : ∀ ns : List Int, RepL K H (ns.map D.int) (ns.map V.int)
  | [] => .nil
  | n :: ns => .cons (.int n) (repL_ints ns)
theorem law_ok {L : TabL} {P : Program} {w : World} {K : PySem.W.Frag} {mg : Str → Option Value} {base : Heap} {CL : List Addr} {TB : List LamR} {p : Prog3} {kit : Kit} {E : List (DefT × Addr × FuncData)} (W : LawN P w L K mg CL TB p kit E) (htb : ∀ r ∈ TB, LamX.TabB base mg r.c r.P) {n f : Nat} {d : DefT} {a : Addr} {fd : FuncData}
    (h : E[f]? = some (d, a, fd)) {x : Str} (hx : d.ps = [x]) (S : LawTrue p kit n f) : FnOkG P w K mg base (L2.CX P w) (lv n) a fd [x] (spL K TB) := by
  have q := all_defs (P := P) (w := w) (base := base) rfl rfl W.names htb n f d a fd h
  rw [hx] at q
  refine q.imp fun vs H Q E ⟨b, ns, e, hT, hS, hl, hb, hq⟩ => ?_
  subst e
  refine ⟨[.rls (ns.map D.int)], fun _ => none, _, _, .cons (.rls hS (repL_ints ns)) .nil, rfl, ⟨fun _ _ e => (by cases e), fun p hp => (by obtain ⟨r, h1, h2⟩ := List.mem_map.mp hp; rw [← h2]; exact LamX.TabS.nil (hT r h1))⟩, S ns hl hb, fun d C' v H' e r _ _ => ?_, fun _ _ _ _ _ z => z.elim⟩
  subst e
  cases r
  exact hq H'
theorem walk3 {l : PySem.W.OpenLaw} {q : Program} {loose : List Str} {XP : (Str → Option Value) → Heap → Prop} {YP : World → Heap → Prop} {d : DefRec} {K : Params → PySem.W.Frag} {x : Str} {k : Nat} (hn : l.most = some 63) (hdf : d.params.defaults = []) (hr : Room k callerA)
    (hY : ∀ (w : World) (h : Heap), YP w h → (K w.params).In h)
    (F : ∀ (w : World) (mg : Str → Option Value) (fa : Addr) (h : Heap), YP w h → (K w.params).In h → h.Ns mainGlobals mg → mg d.name = some (.ref fa) →
      ∃ (fd : FuncData) (TB : List LamR), (∀ (s : Shared) (u : Value), BindsTo s fd ⟨[u], []⟩ [(x, u)]) ∧ (∀ r ∈ TB, h.get? r.P = some { cls := .none, data := .fields #[] } ∧ (K w.params).lookup r.P = none ∧ PySem.W.codeHdIn (K w.params) r.c r.P = true) ∧
        ∀ base : Heap, (K w.params).In base → base.Ns mainGlobals mg → (∀ r ∈ TB, LamX.TabB base mg r.c r.P) → FnOkG l.prog w (K w.params) mg base (L2.CX l.prog w) k fa fd [x] (spL (K w.params) TB)) :
    PySem.W.WalkO q loose XP YP l.row.toRowW d [] (fun f vs => PySem.call f vs) := by
  refine Att.attach_callB hn hdf fun w s₀ s₁ mg mb fa o pm cd doc a vs ns G Y _ _ _ named obj hint len bits gens => ?_
  have KX := hY w _ Y
  obtain ⟨fd, TB, hb, hT, hF⟩ := F w mg fa _ Y KX G.T.g named
  have un : ∀ {p : Addr × Addr}, p ∈ TB.map (fun r => (r.c, r.P)) → ∃ r ∈ TB, p = (r.c, r.P) := fun hp => let ⟨r, h1, h2⟩ := List.mem_map.mp hp; ⟨r, h1, h2.symm⟩
  refine law_callT (cs := TB.map fun r => (r.c, r.P)) (sp := spL (K w.params) TB) (CXx := L2.CX l.prog w) KX G.T.g G.T.b G.T.builtins G.T.nolimit gens obj hint (Nat.le_trans len (by decide)) (fun p hp => ?_) (fun p hp => ?_) (fun p hp => ?_) G.T.bmain hr (fun base K1 K2 K3 => hF base K1 K2 fun r hr => K3 (r.c, r.P) (List.mem_map.mpr ⟨r, hr, rfl⟩)) hb (fun H hH hO hS => ⟨a, ns, rfl, fun r hr => hH (r.c, r.P) (List.mem_map.mpr ⟨r, hr, rfl⟩), ?_, len, bits, fun _ => rfl⟩) fun H e s' h => ?_
  · obtain ⟨r, h1, rfl⟩ := un hp; exact (hT r h1).1
  · obtain ⟨r, h1, rfl⟩ := un hp; exact (hT r h1).2.1
  · obtain ⟨r, h1, rfl⟩ := un hp; exact (hT r h1).2.2
  · rcases hS with (h | ⟨o, h⟩) | h
    · rcases hO a with z | ⟨p, hp, z⟩ | ⟨o, xs, z⟩
      · rw [h] at z; cases z
      · rw [z, hH p hp] at h; cases h
      · rw [h] at z; cases z
    · exact .inl ⟨o, h⟩
    · exact .inr h
  · obtain ⟨_, _, _, _, _, _, _, _, _, _, _, _, z⟩ := h
    exact z.elim
theorem wpN_eq (p : Prog3) (kit : String ⊕ Nat → String ⊕ Nat → Option Bool) (n f : Nat) (ds : List D) (C : CH) (Q : Kv) (E : Kx) (d : FDef) (h : p.get f = some d) (hl : ds.length = d.np) : wpN p kit (n + 1) f ds C Q E = rdSs (gN p kit n) (exN E) d.body (endN Q) (startN d.ns ds) C := by
  have e : wpN p kit (n + 1) f ds C Q E = (ds.length = d.np ∧ rdSs (gN p kit n) (exN E) d.body (endN Q) (startN d.ns ds) C) := by
    rw [wpN_succ]
    simp only [h]
  rw [e]
  exact propext ⟨fun h => h.2, fun h => ⟨hl, h⟩⟩
theorem wpL_eq (p : Prog3) (kit : String ⊕ Nat → String ⊕ Nat → Option Bool) (n g : Nat) (act : SemA) (ds : List D) (C : CH) (Q : Kv) (E : Kx) (d : FDef) (h : p.get g = some d) (hl : ds.length = d.np) : (gN p kit (n + 3)).lam g act ds C Q E = rdSs (gA p kit (n + 1) act) (exN E) d.body (endN Q) (startN d.ns ds) C := by
  have e : (gN p kit (n + 3)).lam g act ds C Q E = (ds.length = d.np ∧ rdSs (gA p kit (n + 1) act) (exN E) d.body (endN Q) (startN d.ns ds) C) := by
    unfold gN wpL
    simp only [h]
    rfl
  rw [e]
  exact propext ⟨fun h => h.2, fun h => ⟨hl, h⟩⟩
theorem kitPlain_ok {K : PySem.W.Frag} {cl : ClsT} : AllP (KitP K cl) kitPlain := by
  unfold kitPlain
  repeat' first | exact trivial | refine ⟨kitP_ty (by rfl), ?_⟩
theorem kitPlain_c {K : PySem.W.Frag} {CL : List Addr} : AllP (fun q : (String ⊕ Nat) × (String ⊕ Nat) × Bool => ∀ c Ca, q.1 = .inr c → CL[c]? = some Ca → ClsOk K Ca) kitPlain := by
  unfold kitPlain
  repeat' first | exact trivial | refine ⟨fun _ _ e => (by cases e), ?_⟩
theorem relV_int {i : Int} {t : Tok} : RelV (.int i) (.int i t) := ⟨t, rfl⟩
theorem relV_str {i : Str} {t : Tok} : RelV (.str i) (.str i t) := ⟨t, rfl⟩
end L3
namespace L3
open PySem L2
section
variable {K : PySem.W.Frag} {fd : FuncData} {ps : List Str} {n : Nat} {ks : List Str} {gs : List Src}
/-- some are left out: the defaults are the tuple at T, the keyword-only ones stand in the dict at Dk -/
theorem bindsC_D {T Dk : Addr} {o : Obj} {its : List Value} {m : Nat} {dvs : List V} {ms : List (Str × V)} (g : {α : Type} → List α → List α → List α → List α → List α)
    (lT : K.lookup T = some o) (oT : o.data = .seq its.toArray m) (rT : Vals dvs its) (hq : ∀ q ∈ ms, ∃ u, PySem.W.nsIn K Dk q.1 = some (some u) ∧ RelV q.2 u)
    (hrel : ∀ {vs ds mz zs : List V} {us its mv ws : List Value}, Vals vs us → Vals ds its → Vals mz mv → Vals zs ws → Vals (g vs ds mz zs) (g us its mv ws))
    (h : ∀ (us mv ws : List Value), us.length = n → mv.length = ms.length → ws.length = ks.length →
      ∃ k, bindArgs fd ⟨us, ks.zip ws⟩ = seqItems? (.ref T) >>= k ∧ KwChain Dk ((ms.map (·.1)).zip mv) (k (some its.toArray)) (ps.zip (g us its mv ws)))
    (rel : ∀ H ds vs es zs, ds.length = n → es.length = ks.length → RepL K H ds vs → RepL K H es zs → RepL K H (gath gs ds es) (g vs dvs (ms.map (·.2)) zs)) : BindsC K fd ps n ks gs := by
  obtain ⟨mv, hl, rk, hks⟩ := kwd_vals (ms := ms) hq
  refine ⟨fun us ws => g us its mv ws, fun vs zs => g vs dvs (ms.map (·.2)) zs, fun s us ws X l1 l2 => ?_, fun r1 r2 => hrel r1 rT rk r2, rel⟩
  obtain ⟨k, e1, e2⟩ := h us mv ws l1 hl l2
  refine BindsTo.of_looks fun M => ?_
  rw [e1]
  exact looks_items X lT oT (KwChain.looks X hks e2)
end
theorem AllP.app {α : Type} {P : α → Prop} : ∀ {xs ys : List α}, AllP P xs → AllP P ys → AllP P (xs ++ ys)
  | [], _, _, h => h
  | _ :: _, _, ⟨h, t⟩, g => ⟨h, AllP.app t g⟩
theorem tyC_lst {C : CH} {p : Addr} {xs : List D} (h : C p = some (.lst xs)) : tyC C (.ref p) = some (.inl "list") := by simp [tyC, h]
end L3
namespace L3
open PySem L2
inductive T where
  | non | bl (b : Bool) | int (i : Int) | str (x : Str) | tup (xs : List T)
mutual
noncomputable def T.d : T → D
  | .non => .non
  | .bl b => .bl b
  | .int i => .int i
  | .str x => .str x
  | .tup xs => .tup (T.ds xs)
noncomputable def T.ds : List T → List D
  | [] => []
  | x :: xs => x.d :: T.ds xs
end
theorem T.ds_map : ∀ xs : List T, T.ds xs = xs.map T.d
  | [] => rfl
  | x :: xs => by rw [T.ds, T.ds_map xs, List.map_cons]
theorem T.ds_length (xs : List T) : (T.ds xs).length = xs.length := by rw [T.ds_map, List.length_map]
mutual
noncomputable def T.p : T → PyData
  | .non => .none
  | .bl b => .bool b
  | .int i => .int i
  | .str x => .str x
  | .tup xs => .tuple (T.pl xs)
noncomputable def T.pl : List T → List PyData
  | [] => []
  | x :: xs => x.p :: T.pl xs
end
mutual
theorem T.snap (C : CH) : ∀ t : T, Snap C t.d t.p
  | .non => .non
  | .bl b => .bl b
  | .int i => .int i
  | .str x => .str x
  | .tup xs => .tup (T.snaps C xs)
theorem T.snaps (C : CH) : ∀ ts : List T, SnapL C (T.ds ts) (T.pl ts)
  | [] => .nil
  | x :: xs => .cons (T.snap C x) (T.snaps C xs)
end
theorem SqC_tup {C : CH} {xs ds : List D} : SqC C (.tup xs) ds ↔ xs = ds := by
  unfold SqC
  constructor
  · rintro (h | h | ⟨p, h, _⟩)
    · exact D.tup.inj h
    · cases h
    · cases h
  · intro h; exact .inl (by rw [h])
theorem SqC_rls {C : CH} {xs ds : List D} : SqC C (.rls xs) ds ↔ xs = ds := by
  unfold SqC
  constructor
  · rintro (h | h | ⟨p, h, _⟩)
    · cases h
    · exact D.rls.inj h
    · cases h
  · intro h; exact .inr (.inl (by rw [h]))
theorem SqC_ref {C : CH} {p : Addr} {ds : List D} : SqC C (.ref p) ds ↔ C p = some (.lst ds) := by
  unfold SqC LsC
  constructor
  · rintro (h | h | ⟨q, h, h2⟩)
    · cases h
    · cases h
    · cases h; exact h2
  · intro h; exact .inr (.inr ⟨p, rfl, h⟩)
theorem SqC_str {C : CH} {z : Str} {ds : List D} : SqC C (.str z) ds ↔ False := by
  unfold SqC
  constructor
  · rintro (h | h | ⟨q, h, h2⟩) <;> cases h
  · exact False.elim
theorem SqC_int {C : CH} {z : Int} {ds : List D} : SqC C (.int z) ds ↔ False := by
  unfold SqC
  constructor
  · rintro (h | h | ⟨q, h, h2⟩) <;> cases h
  · exact False.elim
theorem LsC_iff {C : CH} {p : Addr} {ds : List D} : LsC C p ds ↔ C p = some (.lst ds) := Iff.rfl
theorem cup_old {C : CH} {p q : Addr} {o u : CO} (hp : C p = none) (hq : C q = some o) : cup C p u q = some o := by
  rw [cup_ne (fun e => by rw [e, hp] at hq; cases hq)]
  exact hq
theorem tyC_non {C : CH} : tyC C .non = some (.inl "NoneType") := rfl
theorem tyC_bl {C : CH} {b : Bool} : tyC C (.bl b) = some (.inl "bool") := rfl
theorem tyC_int {C : CH} {b : Int} : tyC C (.int b) = some (.inl "int") := rfl
theorem tyC_str {C : CH} {b : Str} : tyC C (.str b) = some (.inl "str") := rfl
theorem tyC_tup {C : CH} {b : List D} : tyC C (.tup b) = some (.inl "tuple") := rfl
theorem atI_nat {α : Type} {xs : List α} {i : Nat} {c : α} (h : xs[i]? = some c) : L2.atI xs (i : Int) = some c := L2.atI_nat h
theorem atI_zero {α : Type} {c : α} {r : List α} : L2.atI (c :: r) 0 = some c := L2.atI_nat (j := 0) rfl
theorem atI_one {α : Type} {b c : α} {r : List α} : L2.atI (b :: c :: r) 1 = some c := L2.atI_nat (j := 1) rfl
theorem atI_two {α : Type} {a b c : α} {r : List α} : L2.atI (a :: b :: c :: r) 2 = some c := L2.atI_nat (j := 2) rfl
theorem sl_lt0 : 0 < sizeLine := by decide
theorem sl_le0 : 0 ≤ sizeLine := by decide
theorem sl_lt1 : 1 < sizeLine := by decide
theorem sl_le1 : 1 ≤ sizeLine := by decide
theorem sl_lt2 : 2 < sizeLine := by decide
theorem sl_le2 : 2 ≤ sizeLine := by decide
theorem sl_lt3 : 3 < sizeLine := by decide
theorem sl_le3 : 3 ≤ sizeLine := by decide
theorem sl_lt4 : 4 < sizeLine := by decide
theorem sl_le4 : 4 ≤ sizeLine := by decide
theorem sl_lt5 : 5 < sizeLine := by decide
theorem sl_le5 : 5 ≤ sizeLine := by decide
theorem sl_lt6 : 6 < sizeLine := by decide
theorem sl_le6 : 6 ≤ sizeLine := by decide
theorem sl_lt7 : 7 < sizeLine := by decide
theorem sl_le7 : 7 ≤ sizeLine := by decide
theorem sl_lt8 : 8 < sizeLine := by decide
theorem sl_le8 : 8 ≤ sizeLine := by decide
theorem sl_lt9 : 9 < sizeLine := by decide
theorem sl_le9 : 9 ≤ sizeLine := by decide
theorem sl_lt10 : 10 < sizeLine := by decide
theorem sl_le10 : 10 ≤ sizeLine := by decide
theorem sl_lt11 : 11 < sizeLine := by decide
theorem sl_le11 : 11 ≤ sizeLine := by decide
theorem sl_lt12 : 12 < sizeLine := by decide
theorem sl_le12 : 12 ≤ sizeLine := by decide
theorem oInF_str2 {f : Bool → Bool} {w a b : Str} {C : CH} {Q : Kv} : oInF f (.str w) (.tup [.str a, .str b]) C Q ↔ Q (.bl (f (decide (w = a) || decide (w = b)))) C := by
  have e : L2.inV (toV (.str w)) ([D.str a, D.str b].map toV) = (decide (w = a) || decide (w = b)) := by
    show ((L2.eqV (.str a) (.str w)) || ((L2.eqV (.str b) (.str w)) || false)) = _
    rw [Bool.or_false]
    have q : ∀ x : Str, L2.eqV (.str x) (.str w) = decide (w = x) := fun x => by
      by_cases h : w = x
      · subst h; simp [L2.eqV]
      · have h' : ¬ x = w := fun z => h z.symm
        simp [L2.eqV, h, h']
    rw [q, q]
  constructor
  · rintro ⟨ds, h1, _, _, h⟩
    rw [SqC_tup] at h1
    subst h1
    rw [e] at h
    exact h
  · intro h
    exact ⟨_, SqC_tup.mpr rfl, rfl, rfl, by rw [e]; exact h⟩
theorem rdSs_cons {G : G3} {ex : Kxs} {s : CS} {r : List CS} {D : EndsC} {σ : Env3} {C : CH} : rdSs G ex (s :: r) D σ C = rdS G ex s { D with nx := rdSs G ex r D } σ C := rfl
theorem rdSs_nil {G : G3} {ex : Kxs} {D : EndsC} {σ : Env3} {C : CH} : rdSs G ex [] D σ C = D.nx σ C := rfl
theorem rdS_while {G : G3} {ex : Kxs} {t : CE} {b : List CS} {D : EndsC} {σ : Env3} {C : CH} : rdS G ex (.whileS t b) D σ C = ∃ m, whileN (rdT G ex t) (rdSs G ex b) D m σ C := rfl
theorem isLst_of {C : CH} {p : Addr} {xs : List D} (h : C p = some (.lst xs)) : isLst (.ref p) C := ⟨p, xs, rfl, h⟩
theorem oAddA_int {i j : Int} {C : CH} {Q : Kv} : oAddA (.int i) (.int j) C Q ↔ Q (.int (i + j)) C := Iff.rfl
theorem oAddA_str {i j : Str} {C : CH} {Q : Kv} : oAddA (.str i) (.str j) C Q ↔ i.length + j.length ≤ sizeLine ∧ Q (.str (i ++ j)) C := Iff.rfl
theorem oAddA_tup {i j : List D} {C : CH} {Q : Kv} : oAddA (.tup i) (.tup j) C Q ↔ i.length + j.length ≤ sizeLine ∧ Q (.tup (i ++ j)) C := Iff.rfl
theorem oI2_int {P : Int → Int → Prop} {g : Int → Int → D} {i j : Int} {C : CH} {Q : Kv} : oI2 P g (.int i) (.int j) C Q ↔ P i j ∧ Q (g i j) C := Iff.rfl
theorem oMulA_int {i j : Int} {C : CH} {Q : Kv} : oMulA (.int i) (.int j) C Q ↔ CMul i j ∧ Q (.int (i * j)) C := Iff.rfl
theorem oMulA_str {z : Str} {k : Int} {C : CH} {Q : Kv} : oMulA (.str z) (.int k) C Q ↔ 0 ≤ k ∧ k ≤ 10000 ∧ z.length ≤ 1000 ∧ Q (.str (repS z k.toNat)) C := Iff.rfl
theorem oMulA_tup {xs : List D} {k : Int} {C : CH} {Q : Kv} : oMulA (.tup xs) (.int k) C Q ↔ xs ≠ [] ∧ 0 ≤ k ∧ k ≤ 10000 ∧ xs.length ≤ 1000 ∧ Q (.tup (List.replicate k.toNat xs).flatten) C := Iff.rfl
theorem oIxA_tup {xs : List D} {i : Int} {C : CH} {Q : Kv} : oIxA (.tup xs) (.int i) C Q ↔ ∃ d, L2.atI xs i = some d ∧ Q d C := by
  show (∃ i' d, D.int i = .int i' ∧ L2.atI xs i' = some d ∧ Q d C) ↔ _
  simp
theorem oIxA_rls {xs : List D} {i : Int} {C : CH} {Q : Kv} : oIxA (.rls xs) (.int i) C Q ↔ ∃ d, L2.atI xs i = some d ∧ Q d C := by
  show (∃ i' d, D.int i = .int i' ∧ L2.atI xs i' = some d ∧ Q d C) ↔ _
  simp
theorem oIxA_str {z : Str} {i : Int} {C : CH} {Q : Kv} : oIxA (.str z) (.int i) C Q ↔ z.length ≤ sizeLine ∧ ∃ c, L2.atI z.cps.toList i = some c ∧ Q (.str ⟨#[c]⟩) C := by
  show (∃ i' c, D.int i = .int i' ∧ z.length ≤ sizeLine ∧ L2.atI z.cps.toList i' = some c ∧ Q (.str ⟨#[c]⟩) C) ↔ _
  simp
/-- an item of a list that is written, of a dict -/
theorem oIxA_lst {p : Addr} {xs : List D} {i : Int} {d : D} {C : CH} {Q : Kv} (h : C p = some (.lst xs)) (e : L2.atI xs i = some d) (q : Q d C) : oIxA (.ref p) (.int i) C Q := by
  unfold oIxA
  simp only [h]
  exact ⟨i, d, rfl, e, q⟩
theorem oSl_tup {xs : List D} {lo hi : Option Int} {C : CH} {Q : Kv} : oSl (.tup xs) lo hi C Q ↔ Q (.tup (cutD xs lo hi)) C := Iff.rfl
theorem oSl_str {z : Str} {lo hi : Option Int} {C : CH} {Q : Kv} : oSl (.str z) lo hi C Q ↔ z.length ≤ sizeLine ∧ Q (.str (cutS z lo hi)) C := Iff.rfl
theorem oEqN_int {f : Bool → Bool} {i j : Int} {C : CH} {Q : Kv} : oEqN f (.int i) (.int j) C Q ↔ Q (.bl (f (decide (i = j)))) C := by
  constructor
  · rintro ⟨p, q, h1, h2, _, _, h⟩
    cases h1; cases h2
    exact h
  · intro h
    exact ⟨_, _, .int i, .int j, rfl, rfl, h⟩
theorem oEqN_bl {f : Bool → Bool} {i j : Bool} {C : CH} {Q : Kv} : oEqN f (.bl i) (.bl j) C Q ↔ Q (.bl (f (i == j))) C := by
  constructor
  · rintro ⟨p, q, h1, h2, _, _, h⟩
    cases h1; cases h2
    exact h
  · intro h
    exact ⟨_, _, .bl i, .bl j, rfl, rfl, h⟩
theorem oEqN_strI {f : Bool → Bool} {i j : Str} {C : CH} {Q : Kv} (hi : PyData.strOk i = true) (hj : PyData.strOk j = true) : oEqN f (.str i) (.str j) C Q ↔ Q (.bl (f (decide (i = j)))) C := by
  have e : (PyData.eqv (.str i) (.str j)) = decide (i = j) := by
    show (i == j) = _
    by_cases h : i = j <;> simp [h]
  constructor
  · rintro ⟨p, q, h1, h2, _, _, h⟩
    cases h1; cases h2
    rw [e] at h
    exact h
  · intro h
    exact ⟨_, _, .str i, .str j, by simp [deepOk, PyData.canLay0, PyData.depth, hi], by simp [deepOk, PyData.canLay0, PyData.depth, hj], by rw [e]; exact h⟩
theorem k_NoneType_int : kitPlain.get (.inl "NoneType") (.inl "int") = some false := by decide +kernel
theorem k_bool_int : kitPlain.get (.inl "bool") (.inl "int") = some true := by decide +kernel
theorem k_int_int : kitPlain.get (.inl "int") (.inl "int") = some true := by decide +kernel
theorem k_str_int : kitPlain.get (.inl "str") (.inl "int") = some false := by decide +kernel
theorem k_tuple_int : kitPlain.get (.inl "tuple") (.inl "int") = some false := by decide +kernel
theorem k_list_int : kitPlain.get (.inl "list") (.inl "int") = some false := by decide +kernel
theorem k_dict_int : kitPlain.get (.inl "dict") (.inl "int") = some false := by decide +kernel
theorem k_NoneType_bool : kitPlain.get (.inl "NoneType") (.inl "bool") = some false := by decide +kernel
theorem k_bool_bool : kitPlain.get (.inl "bool") (.inl "bool") = some true := by decide +kernel
theorem k_int_bool : kitPlain.get (.inl "int") (.inl "bool") = some false := by decide +kernel
theorem k_str_bool : kitPlain.get (.inl "str") (.inl "bool") = some false := by decide +kernel
theorem k_tuple_bool : kitPlain.get (.inl "tuple") (.inl "bool") = some false := by decide +kernel
theorem k_list_bool : kitPlain.get (.inl "list") (.inl "bool") = some false := by decide +kernel
theorem k_dict_bool : kitPlain.get (.inl "dict") (.inl "bool") = some false := by decide +kernel
theorem k_NoneType_str : kitPlain.get (.inl "NoneType") (.inl "str") = some false := by decide +kernel
theorem k_bool_str : kitPlain.get (.inl "bool") (.inl "str") = some false := by decide +kernel
theorem k_int_str : kitPlain.get (.inl "int") (.inl "str") = some false := by decide +kernel
theorem k_str_str : kitPlain.get (.inl "str") (.inl "str") = some true := by decide +kernel
theorem k_tuple_str : kitPlain.get (.inl "tuple") (.inl "str") = some false := by decide +kernel
theorem k_list_str : kitPlain.get (.inl "list") (.inl "str") = some false := by decide +kernel
theorem k_dict_str : kitPlain.get (.inl "dict") (.inl "str") = some false := by decide +kernel
theorem k_NoneType_tuple : kitPlain.get (.inl "NoneType") (.inl "tuple") = some false := by decide +kernel
theorem k_bool_tuple : kitPlain.get (.inl "bool") (.inl "tuple") = some false := by decide +kernel
theorem k_int_tuple : kitPlain.get (.inl "int") (.inl "tuple") = some false := by decide +kernel
theorem k_str_tuple : kitPlain.get (.inl "str") (.inl "tuple") = some false := by decide +kernel
theorem k_tuple_tuple : kitPlain.get (.inl "tuple") (.inl "tuple") = some true := by decide +kernel
theorem k_list_tuple : kitPlain.get (.inl "list") (.inl "tuple") = some false := by decide +kernel
theorem k_dict_tuple : kitPlain.get (.inl "dict") (.inl "tuple") = some false := by decide +kernel
theorem k_NoneType_list : kitPlain.get (.inl "NoneType") (.inl "list") = some false := by decide +kernel
theorem k_bool_list : kitPlain.get (.inl "bool") (.inl "list") = some false := by decide +kernel
theorem k_int_list : kitPlain.get (.inl "int") (.inl "list") = some false := by decide +kernel
theorem k_str_list : kitPlain.get (.inl "str") (.inl "list") = some false := by decide +kernel
theorem k_tuple_list : kitPlain.get (.inl "tuple") (.inl "list") = some false := by decide +kernel
theorem k_list_list : kitPlain.get (.inl "list") (.inl "list") = some true := by decide +kernel
theorem k_dict_list : kitPlain.get (.inl "dict") (.inl "list") = some false := by decide +kernel
theorem len_cps (z : Str) : z.length = z.cps.toList.length := (Array.length_toList).symm
/-- a comprehension whose items are told by f, nothing is changed -/
theorem lcL_map {TT : CT} {vs : List Nat} {σ : Env3} {e : CTE} {G : CH → Prop} {Kq : List D → CH → Prop} (f : D → D) {C : CH} (hG : G C) : ∀ (ds acc : List D), (∀ d ∈ ds, ∃ σ2, bindT TT d (wipe3 σ vs) = some σ2 ∧ ∀ Q : Kv, Q (f d) C → e σ2 C Q) → acc.length + ds.length ≤ sizeLine → Kq (acc ++ ds.map f) C → lcL TT vs σ cYes e G Kq ds acc C
  | [], acc, _, _, h => ⟨hG, by simpa using h⟩
  | d :: ds, acc, h, hl, hk => by
    obtain ⟨σ2, e1, e2⟩ := h d List.mem_cons_self
    simp only [List.length_cons] at hl
    refine ⟨hG, σ2, e1, ?_⟩
    show e σ2 C _
    refine e2 _ ⟨by omega, lcL_map f hG ds (acc ++ [f d]) (fun d' hd => h d' (List.mem_cons_of_mem _ hd)) ?_ ?_⟩
    · rw [List.length_append]; simp only [List.length_cons, List.length_nil]; omega
    · simpa using hk
/-- all(..) of a new list of truths -/
theorem oAll_new {f : List Bool → D} {C : CH} {p : Addr} {bs : List Bool} {Q : Kv} {ds : List D} (e : ds = bs.map D.bl) (h : Q (f bs) (cup C p (.lst ds))) : oAll f [.ref p] (cup C p (.lst ds)) Q := ⟨p, bs, rfl, by rw [e]; exact cup_same, h⟩
theorem sub_new {C : CH} {p : Addr} {o : CO} (h : C p = none) : Sub C (cup C p o) := Sub.new h
theorem oMaxL1 {C : CH} {p : Addr} {i : Int} {Q : Kv} (h : C p = some (.lst [.int i])) (q : Q (.int i) C) : oMaxL [.ref p] C Q := ⟨p, [i], i, rfl, h, by simp, by simp, by simp, q⟩
theorem oMaxL2 {C : CH} {p : Addr} {i j : Int} {Q : Kv} (h : C p = some (.lst [.int i, .int j])) (q : Q (.int (if j > i then j else i)) C) : oMaxL [.ref p] C Q :=
  ⟨p, [i, j], _, rfl, h, by simp, by split <;> simp, fun y hy => by
    simp only [List.mem_cons, List.not_mem_nil, or_false] at hy
    rcases hy with rfl | rfl <;> split <;> omega, q⟩
theorem cutD_tail {x : D} {xs : List D} : cutD (x :: xs) (some 1) none = xs := by
  unfold cutD
  have e1 : HT.sIx (x :: xs).length 0 (some 1) = 1 := by simp [HT.sIx]
  have e2 : HT.sIx (x :: xs).length (x :: xs).length none = (x :: xs).length := by simp [HT.sIx]
  rw [e1, e2]
  simp
theorem lcL_T0 {TT : CT} {vs : List Nat} {σ : Env3} {e : CTE} {G : CH → Prop} {Kq : List D → CH → Prop} (f : T → D) {C : CH} (hG : G C) : ∀ (ts : List T) (acc : List D), (∀ t ∈ ts, ∃ σ2, bindT TT t.d (wipe3 σ vs) = some σ2 ∧ ∀ Q : Kv, Q (f t) C → e σ2 C Q) → acc.length + ts.length ≤ sizeLine → Kq (acc ++ ts.map f) C → lcL TT vs σ cYes e G Kq (T.ds ts) acc C
  | [], acc, _, _, h => ⟨hG, by simpa using h⟩
  | d :: ds, acc, h, hl, hk => by
    obtain ⟨σ2, e1, e2⟩ := h d List.mem_cons_self
    simp only [List.length_cons] at hl
    refine ⟨hG, σ2, e1, ?_⟩
    show e σ2 C _
    refine e2 _ ⟨by omega, lcL_T0 f hG ds (acc ++ [f d]) (fun d' hd => h d' (List.mem_cons_of_mem _ hd)) ?_ ?_⟩
    · rw [List.length_append]; simp only [List.length_cons, List.length_nil]; omega
    · simpa using hk
theorem lcL_T {TT : CT} {vs : List Nat} {σ : Env3} {e : CTE} {G : CH → Prop} {Kq : List D → CH → Prop} (f : T → D) {C : CH} (hG : G C) (ts : List T) (h : ∀ t ∈ ts, ∃ σ2, bindT TT t.d (wipe3 σ vs) = some σ2 ∧ ∀ Q : Kv, Q (f t) C → e σ2 C Q) (hl : ts.length ≤ sizeLine) (hk : Kq (ts.map f) C) : lcL TT vs σ cYes e G Kq (T.ds ts) [] C :=
  lcL_T0 f hG ts [] h (by simpa using hl) (by simpa using hk)
theorem sub_at {C0 C : CH} {p : Addr} {o : CO} (hp : C0 p = none) (hs : Sub C0 C) : Sub C0 (cup C p o) := fun a u h => by
  rw [cup_ne (fun z => by rw [z, hp] at h; cases h)]
  exact hs a u h
theorem lcL_of0 {α : Type} {TT : CT} {vs : List Nat} {σ : Env3} {e : CTE} {G : CH → Prop} {Kq : List D → CH → Prop} (g f : α → D) {C : CH} (hG : G C) : ∀ (ts : List α) (acc : List D), (∀ t ∈ ts, ∃ σ2, bindT TT (g t) (wipe3 σ vs) = some σ2 ∧ ∀ Q : Kv, Q (f t) C → e σ2 C Q) → acc.length + ts.length ≤ sizeLine → Kq (acc ++ ts.map f) C → lcL TT vs σ cYes e G Kq (ts.map g) acc C
  | [], acc, _, _, h => ⟨hG, by simpa using h⟩
  | d :: ds, acc, h, hl, hk => by
    obtain ⟨σ2, e1, e2⟩ := h d List.mem_cons_self
    simp only [List.length_cons] at hl
    refine ⟨hG, σ2, e1, ?_⟩
    show e σ2 C _
    refine e2 _ ⟨by omega, lcL_of0 g f hG ds (acc ++ [f d]) (fun d' hd => h d' (List.mem_cons_of_mem _ hd)) ?_ ?_⟩
    · rw [List.length_append]; simp only [List.length_cons, List.length_nil]; omega
    · simpa using hk
theorem lcL_of {α : Type} {TT : CT} {vs : List Nat} {σ : Env3} {e : CTE} {G : CH → Prop} {Kq : List D → CH → Prop} (g f : α → D) {C : CH} (hG : G C) (ts : List α) (h : ∀ t ∈ ts, ∃ σ2, bindT TT (g t) (wipe3 σ vs) = some σ2 ∧ ∀ Q : Kv, Q (f t) C → e σ2 C Q) (hl : ts.length ≤ sizeLine) (hk : Kq (ts.map f) C) : lcL TT vs σ cYes e G Kq (ts.map g) [] C :=
  lcL_of0 g f hG ts [] h (by simpa using hl) (by simpa using hk)
/-- a comprehension with a test -/
theorem lcL_if0 {α : Type} {TT : CT} {vs : List Nat} {σ : Env3} {tt : CTT} {e : CTE} {G : CH → Prop} {Kq : List D → CH → Prop} (g f : α → D) (p : α → Bool) {C : CH} (hG : G C) : ∀ (ts : List α) (acc : List D), (∀ t ∈ ts, ∃ σ2, bindT TT (g t) (wipe3 σ vs) = some σ2 ∧ (∀ Q : Bool → CH → Prop, Q (p t) C → tt σ2 C Q) ∧ ∀ Q : Kv, Q (f t) C → e σ2 C Q) → acc.length + ts.length ≤ sizeLine → Kq (acc ++ (ts.filter p).map f) C → lcL TT vs σ tt e G Kq (ts.map g) acc C
  | [], acc, _, _, h => ⟨hG, by simpa using h⟩
  | d :: ds, acc, h, hl, hk => by
    obtain ⟨σ2, e1, e2, e3⟩ := h d List.mem_cons_self
    simp only [List.length_cons] at hl
    refine ⟨hG, σ2, e1, e2 _ ?_⟩
    by_cases hp : p d = true
    · rw [if_pos hp]
      refine e3 _ ⟨by omega, lcL_if0 g f p hG ds (acc ++ [f d]) (fun d' hd => h d' (List.mem_cons_of_mem _ hd)) ?_ ?_⟩
      · rw [List.length_append]; simp only [List.length_cons, List.length_nil]; omega
      · simpa [hp] using hk
    · rw [if_neg hp]
      refine lcL_if0 g f p hG ds acc (fun d' hd => h d' (List.mem_cons_of_mem _ hd)) (by omega) ?_
      simpa [hp] using hk
theorem lcL_if {α : Type} {TT : CT} {vs : List Nat} {σ : Env3} {tt : CTT} {e : CTE} {G : CH → Prop} {Kq : List D → CH → Prop} (g f : α → D) (p : α → Bool) {C : CH} (hG : G C) (ts : List α) (h : ∀ t ∈ ts, ∃ σ2, bindT TT (g t) (wipe3 σ vs) = some σ2 ∧ (∀ Q : Bool → CH → Prop, Q (p t) C → tt σ2 C Q) ∧ ∀ Q : Kv, Q (f t) C → e σ2 C Q) (hl : ts.length ≤ sizeLine) (hk : Kq ((ts.filter p).map f) C) : lcL TT vs σ tt e G Kq (ts.map g) [] C :=
  lcL_if0 g f p hG ts [] h (by simpa using hl) (by simpa using hk)
/-- a comprehension whose items change the heap: J is kept, R is told of each item -/
theorem lcL_run {TT : CT} {vs : List Nat} {σ : Env3} {e : CTE} {G : CH → Prop} {Kq : List D → CH → Prop} (J : Nat → CH → Prop) (R : D → Prop) (hG : ∀ k C, J k C → G C) :
    ∀ (items acc : List D) (C : CH), J items.length C → (∀ d ∈ acc, R d) → acc.length + items.length ≤ sizeLine → (∀ acc' C', J 0 C' → acc'.length = acc.length + items.length → (∀ d ∈ acc', R d) → Kq acc' C') →
      (∀ d ∈ items, ∀ k C, J (k + 1) C → ∃ σ2, bindT TT d (wipe3 σ vs) = some σ2 ∧ ∀ Q : Kv, (∀ y C', R y → J k C' → Q y C') → e σ2 C Q) → lcL TT vs σ cYes e G Kq items acc C
  | [], acc, C, hJ, hR, hl, hK, h => ⟨hG _ _ hJ, hK acc C hJ rfl hR⟩
  | d :: ds, acc, C, hJ, hR, hl, hK, h => by
    obtain ⟨σ2, e1, e2⟩ := h d List.mem_cons_self ds.length C hJ
    simp only [List.length_cons] at hl hK
    refine ⟨hG _ _ hJ, σ2, e1, ?_⟩
    show e σ2 C _
    refine e2 _ fun y C' hy hJ' => ⟨by omega, lcL_run J R hG ds (acc ++ [y]) C' hJ' ?_ ?_ ?_ fun d' hd => h d' (List.mem_cons_of_mem _ hd)⟩
    · intro d' hd'
      rcases List.mem_append.mp hd' with hd' | hd'
      · exact hR d' hd'
      · rw [List.mem_singleton.mp hd']; exact hy
    · rw [List.length_append]; simp only [List.length_cons, List.length_nil]; omega
    · intro acc' C' hJ0 hla hRa
      refine hK acc' C' hJ0 ?_ hRa
      rw [hla, List.length_append]; simp only [List.length_cons, List.length_nil]; omega
end L3
namespace My
open PySem L3
open L2 (inClass defArgs defBody defScope)
noncomputable def top (i : Nat) : Stmt := PySem.Challenge.pw_loopforms_k80_conditions_as_texts.main.body.getD i (.Pass ⟨0, 0, 0, 0⟩)
noncomputable abbrev i_is_number : Nat := 0
noncomputable abbrev i_is_name : Nat := 1
noncomputable abbrev i_measured : Nat := 2
noncomputable abbrev i_is_value : Nat := 3
noncomputable abbrev i_is_term : Nat := 4
noncomputable abbrev i_sizes_of : Nat := 5
noncomputable abbrev i_highest : Nat := 6
noncomputable abbrev i_need_value : Nat := 7
noncomputable abbrev i_text_of : Nat := 8
noncomputable abbrev i_value_text : Nat := 9
noncomputable abbrev i_name_end : Nat := 10
noncomputable abbrev i_read_at : Nat := 11
noncomputable abbrev i_read_value : Nat := 12
noncomputable abbrev i_may_useC : Nat := 13
noncomputable abbrev i_may_call : Nat := 14
noncomputable abbrev i_is_shaped : Nat := 15
noncomputable abbrev i_is_condition : Nat := 16
noncomputable abbrev i_value_of : Nat := 17
noncomputable abbrev i_term_of : Nat := 18
noncomputable abbrev i_pieces_of : Nat := 19
noncomputable abbrev i_combined : Nat := 20
noncomputable abbrev i_condition_of : Nat := 21
noncomputable abbrev i_conjunction_of : Nat := 22
noncomputable abbrev i_unit_of : Nat := 23
noncomputable abbrev i_search_of : Nat := 24
noncomputable abbrev i_part_words : Nat := 25
noncomputable abbrev i_condition_words : Nat := 26
noncomputable abbrev i_need_read : Nat := 27
noncomputable abbrev i_stands_somewhere : Nat := 28
noncomputable abbrev i_condition_text : Nat := 29
noncomputable abbrev i_read_condition : Nat := 30
noncomputable abbrev i__law_begin : Nat := 31
noncomputable abbrev i__law_draw : Nat := 32
noncomputable abbrev i__law_pick : Nat := 33
noncomputable abbrev i__law_name : Nat := 34
noncomputable abbrev i__law_height : Nat := 35
noncomputable abbrev i__law_value : Nat := 36
noncomputable abbrev i__law_term : Nat := 37
noncomputable abbrev i__law_condition : Nat := 38
noncomputable abbrev i__law_value_text : Nat := 39
noncomputable abbrev i__law_condition_text : Nat := 40
noncomputable abbrev i__law_told : Nat := 41
noncomputable abbrev i__law_right : Nat := 42
noncomputable abbrev i_law : Nat := 43
noncomputable abbrev c_NoText : Nat := 6
/-- is_number: slots 0=thing -/
noncomputable def b_is_number : List CS := [(.ret (.and (.isi (.inl "int") (.var 0)) (.not (.isi (.inl "bool") (.var 0)))))]
/-- is_name: slots 0=thing 1=sign -/
noncomputable def b_is_name : List CS := [(.ifS (.or (.not (.isi (.inl "str") (.var 0))) (.or (.not (.chain .le .le (.cst (.int 1)) (.bi .len [(.var 0)]) (.glb "MOST_SIGNS" (.int 8)))) (.cmp .notInS (.idx (.var 0) (.cst (.int 0))) (.glb "LETTERS" (.str "abcdefghijklmnopqrstuvwxyz"))))) [(.ret (.cst (.bl false)))] []), (.ret (.bi .all [(.lc (.cmp .inS (.var 1) (.glb "SIGNS" (.str "abcdefghijklmnopqrstuvwxyz0123456789"))) (.nm 1) [1] .txt [(.var 0)] [])]))]
/-- measured: slots 0=thing 1=room 2=parts 3=part -/
noncomputable def b_measured : List CS := [(.ifS (.call i_is_number 1 1 0 [.pos 0] [(.var 0)] []) [(.ret (.ite (.chain .le .le (.cst (.int 1)) (.var 0) (.glb "MOST_LEVEL" (.int 3))) (.tup [(.cst (.int 0)), (.var 0)]) (.cst .non)))] []), (.ifS (.or (.cmp .eq (.var 1) (.cst (.int 0))) (.or (.not (.isi (.inl "tuple") (.var 0))) (.or (.not (.chain .le .le (.cst (.int 2)) (.bi .len [(.var 0)]) (.cst (.int 3)))) (.not (.call i_is_name 1 1 0 [.pos 0] [(.idx (.var 0) (.cst (.int 0)))] []))))) [(.ret (.cst .non))] []), (.asg (.nm 2) (.lc (.call i_measured 2 2 0 [.pos 0, .pos 1] [(.var 3), (.bin .sub (.var 1) (.cst (.int 1)))] []) (.nm 3) [3] .seq [(.slice (.var 0) (some (.cst (.int 1))) none)] [])), (.ifS (.cmp .inD (.cst .non) (.var 2)) [(.ret (.cst .non))] []), (.ret (.tup [(.bin .add (.cst (.int 1)) (.bi .maxL [(.lc (.idx (.var 3) (.cst (.int 0))) (.nm 3) [3] .seq [(.var 2)] [])])), (.bi .maxL [(.lc (.idx (.var 3) (.cst (.int 1))) (.nm 3) [3] .seq [(.var 2)] [])])]))]
/-- is_value: slots 0=thing -/
noncomputable def b_is_value : List CS := [(.ret (.cmp .isNot (.call i_measured 2 2 0 [.pos 0, .pos 1] [(.var 0), (.glb "MOST_HEIGHT" (.int 4))] []) (.cst .non)))]
/-- is_term: slots 0=thing -/
noncomputable def b_is_term : List CS := [(.ret (.and (.isi (.inl "tuple") (.var 0)) (.call i_is_value 1 1 0 [.pos 0] [(.var 0)] [])))]
/-- sizes_of: slots 0=value 1=found -/
noncomputable def b_sizes_of : List CS := [(.asg (.nm 1) (.call i_measured 2 2 0 [.pos 0, .pos 1] [(.var 0), (.glb "MOST_HEIGHT" (.int 4))] [])), (.ifS (.cmp .is (.var 1) (.cst .non)) [(.raise 1)] []), (.ret (.var 1))]
/-- highest: slots 0=value -/
noncomputable def b_highest : List CS := [(.ret (.idx (.call i_sizes_of 1 1 0 [.pos 0] [(.var 0)] []) (.cst (.int 1))))]
/-- need_value: slots 0=value 1=level -/
noncomputable def b_need_value : List CS := [(.ifS (.cmp .gt (.call i_highest 1 1 0 [.pos 0] [(.var 0)] []) (.var 1)) [(.raise 1)] [])]
/-- text_of: slots 0=value 1=part -/
noncomputable def b_text_of : List CS := [(.ifS (.call i_is_number 1 1 0 [.pos 0] [(.var 0)] []) [(.ret (.fst [(.cst (.str "x")), (.fmt (.var 0))]))] []), (.ret (.bin .add (.bin .add (.bin .add (.idx (.var 0) (.cst (.int 0))) (.cst (.str "("))) (.mt .join (.cst (.str ", ")) [(.lc (.call i_text_of 1 1 0 [.pos 0] [(.var 1)] []) (.nm 1) [1] .seq [(.slice (.var 0) (some (.cst (.int 1))) none)] [])])) (.cst (.str ")"))))]
/-- value_text: slots 0=value -/
noncomputable def b_value_text : List CS := [(.expr (.call i_need_value 2 1 0 [.pos 0, .dfl (.int 3)] [(.var 0)] [])), (.ret (.call i_text_of 1 1 0 [.pos 0] [(.var 0)] []))]
/-- name_end: slots 0=text 1=at -/
noncomputable def b_name_end : List CS := [(.whileS (.and (.cmp .lt (.var 1) (.bi .len [(.var 0)])) (.cmp .inS (.idx (.var 0) (.var 1)) (.glb "SIGNS" (.str "abcdefghijklmnopqrstuvwxyz0123456789")))) [(.augN 1 .add (.cst (.int 1)))]), (.ret (.var 1))]
/-- read_at: slots 0=text 1=at 2=room 3=end 4=name 5=parts 6=found -/
noncomputable def b_read_at : List CS := [(.asg (.nm 3) (.call i_name_end 2 2 0 [.pos 0, .pos 1] [(.var 0), (.var 1)] [])), (.asg (.nm 4) (.slice (.var 0) (some (.var 1)) (some (.var 3)))), (.ifS (.cmp .ne (.slice (.var 0) (some (.var 3)) (some (.bin .add (.var 3) (.cst (.int 1))))) (.cst (.str "("))) [(.ret (.ite (.cmp .inF (.var 4) (.tup [(.cst (.str "x1")), (.cst (.str "x2")), (.cst (.str "x3"))])) (.tup [(.bi .intS [(.idx (.var 4) (.cst (.int 1)))]), (.var 3)]) (.cst .non)))] []), (.ifS (.or (.cmp .eq (.var 2) (.cst (.int 0))) (.not (.call i_is_name 1 1 0 [.pos 0] [(.var 4)] []))) [(.ret (.cst .non))] []), (.asg (.nm 5) (.lst [(.var 4)])), (.augN 3 .add (.cst (.int 1))), (.whileS (.cmp .lt (.bi .len [(.var 5)]) (.cst (.int 3))) [(.asg (.nm 6) (.call i_read_at 3 3 0 [.pos 0, .pos 1, .pos 2] [(.var 0), (.var 3), (.bin .sub (.var 2) (.cst (.int 1)))] [])), (.ifS (.cmp .is (.var 6) (.cst .non)) [(.ret (.cst .non))] []), (.expr (.mt .append (.var 5) [(.idx (.var 6) (.cst (.int 0)))])), (.asg (.nm 3) (.idx (.var 6) (.cst (.int 1)))), (.ifS (.cmp .ne (.slice (.var 0) (some (.var 3)) (some (.bin .add (.var 3) (.cst (.int 2))))) (.cst (.str ", "))) [(.ret (.ite (.cmp .eq (.slice (.var 0) (some (.var 3)) (some (.bin .add (.var 3) (.cst (.int 1))))) (.cst (.str ")"))) (.tup [(.bi .tuple [(.var 5)]), (.bin .add (.var 3) (.cst (.int 1)))]) (.cst .non)))] []), (.augN 3 .add (.cst (.int 2)))]), (.ret (.cst .non))]
/-- read_value: slots 0=text 1=found -/
noncomputable def b_read_value : List CS := [(.asg (.nm 1) (.ite (.isi (.inl "str") (.var 0)) (.call i_read_at 3 3 0 [.pos 0, .pos 1, .pos 2] [(.var 0), (.cst (.int 0)), (.glb "MOST_HEIGHT" (.int 4))] []) (.cst .non))), (.ifS (.or (.cmp .is (.var 1) (.cst .non)) (.cmp .ne (.idx (.var 1) (.cst (.int 1))) (.bi .len [(.var 0)]))) [(.raise 6)] []), (.ret (.idx (.var 1) (.cst (.int 0))))]
/-- may_use: slots 0=value 1=level 2=called -/
noncomputable def b_may_useC : List CS := [(.ifS (.not (.call i_is_value 1 1 0 [.pos 0] [(.var 0)] [])) [(.ret (.cst (.bl false)))] []), (.ifS (.call i_is_number 1 1 0 [.pos 0] [(.var 0)] []) [(.ret (.cmp .le (.var 0) (.var 1)))] []), (.ret (.ite (.call i_is_number 1 1 0 [.pos 0] [(.var 2)] []) (.cmp .le (.call i_highest 1 1 0 [.pos 0] [(.var 0)] []) (.var 2)) (.cmp .inD (.var 0) (.var 2))))]
/-- may_call: slots 0=term 1=level 2=called 3=value -/
noncomputable def b_may_call : List CS := [(.ret (.and (.call i_is_term 1 1 0 [.pos 0] [(.var 0)] []) (.bi .all [(.lc (.call i_may_useC 3 3 0 [.pos 0, .pos 1, .pos 2] [(.var 3), (.var 1), (.var 2)] []) (.nm 3) [3] .seq [(.slice (.var 0) (some (.cst (.int 1))) none)] [])])))]
/-- is_shaped: slots 0=thing -/
noncomputable def b_is_shaped : List CS := [(.ifS (.or (.not (.isi (.inl "tuple") (.var 0))) (.or (.cmp .lt (.bi .len [(.var 0)]) (.cst (.int 2))) (.not (.isi (.inl "str") (.idx (.var 0) (.cst (.int 0))))))) [(.ret (.cst (.bl false)))] []), (.ifS (.cmp .inF (.idx (.var 0) (.cst (.int 0))) (.tup [(.cst (.str "and")), (.cst (.str "or"))])) [(.ret (.and (.cmp .eq (.bi .len [(.var 0)]) (.cst (.int 2))) (.and (.isi (.inl "tuple") (.idx (.var 0) (.cst (.int 1)))) (.cmp .gt (.bi .len [(.idx (.var 0) (.cst (.int 1)))]) (.cst (.int 1))))))] []), (.ifS (.cmp .eq (.idx (.var 0) (.cst (.int 0))) (.cst (.str "ask"))) [(.ret (.and (.cmp .eq (.bi .len [(.var 0)]) (.cst (.int 3))) (.isi (.inl "bool") (.idx (.var 0) (.cst (.int 2))))))] []), (.ret (.and (.cmp .inF (.idx (.var 0) (.cst (.int 0))) (.tup [(.cst (.str "any")), (.cst (.str "all"))])) (.cmp .eq (.bi .len [(.var 0)]) (.cst (.int 3)))))]
/-- is_condition: slots 0=thing 1=level 2=called 3=line 4=count 5=known 6=part 7=at 8=nest 9=one -/
noncomputable def b_is_condition : List CS := [(.asg (.nm 3) (.lst [(.tup [(.var 0), (.var 1), (.cst (.int 1))])])), (.asg (.nm 4) (.cst (.int 0))), (.asg (.nm 5) (.ite (.cmp .is (.var 2) (.cst .non)) (.var 1) (.var 2))), (.whileS (.cmp .ne (.var 3) (.lst [])) [(.asg (.tp [6, 7, 8]) (.mt .pop (.var 3) [])), (.ifS (.or (.cmp .gt (.var 8) (.glb "DEEPEST" (.int 100))) (.or (.cmp .gt (.var 7) (.glb "HIGHEST_LEVEL" (.int 3))) (.not (.call i_is_shaped 1 1 0 [.pos 0] [(.var 6)] [])))) [(.ret (.cst (.bl false)))] []), (.ifS (.cmp .inF (.idx (.var 6) (.cst (.int 0))) (.tup [(.cst (.str "and")), (.cst (.str "or"))])) [(.expr (.mt .extend (.var 3) [(.lc (.tup [(.var 9), (.var 7), (.bin .add (.var 8) (.cst (.int 1)))]) (.nm 9) [9] .seq [(.idx (.var 6) (.cst (.int 1)))] [])]))] [(.ifS (.not (.call i_may_call 3 3 0 [.pos 0, .pos 1, .pos 2] [(.idx (.var 6) (.cst (.int 1))), (.var 7), (.var 5)] [])) [(.ret (.cst (.bl false)))] [(.ifS (.cmp .eq (.idx (.var 6) (.cst (.int 0))) (.cst (.str "ask"))) [(.asg (.nm 4) (.bin .add (.var 4) (.cst (.int 1))))] [(.expr (.mt .append (.var 3) [(.tup [(.idx (.var 6) (.cst (.int 2))), (.bin .add (.var 7) (.cst (.int 1))), (.bin .add (.var 8) (.cst (.int 1)))])]))])])]), (.ifS (.cmp .gt (.var 4) (.glb "MOST_ASKS" (.int 400))) [(.ret (.cst (.bl false)))] [])]), (.ret (.cst (.bl true)))]
/-- value_of: slots 0=text 1=found -/
noncomputable def b_value_of : List CS := [(.tryS [6] [(.asg (.nm 1) (.call i_read_value 1 1 0 [.pos 0] [(.var 0)] []))] [(.asg (.nm 1) (.cst .non))]), (.ret (.var 1))]
/-- term_of: slots 0=text 1=found -/
noncomputable def b_term_of : List CS := [(.asg (.nm 1) (.call i_value_of 1 1 0 [.pos 0] [(.var 0)] [])), (.ret (.ite (.isi (.inl "tuple") (.var 1)) (.var 1) (.cst .non)))]
/-- pieces_of: slots 0=text 1=mark 2=found 3=begin 4=depth 5=at -/
noncomputable def b_pieces_of : List CS := [(.asg (.tp [2, 3, 4, 5]) (.tup [(.lst []), (.cst (.int 0)), (.cst (.int 0)), (.cst (.int 0))])), (.whileS (.cmp .lt (.var 5) (.bi .len [(.var 0)])) [(.ifS (.and (.cmp .eq (.var 4) (.cst (.int 0))) (.cmp .eq (.slice (.var 0) (some (.var 5)) (some (.bin .add (.var 5) (.bi .len [(.var 1)])))) (.var 1))) [(.expr (.mt .append (.var 2) [(.slice (.var 0) (some (.var 3)) (some (.var 5)))])), (.augN 5 .add (.bi .len [(.var 1)])), (.asg (.nm 3) (.var 5))] [(.augN 4 .add (.getW "SIDES" [("(", .int 1), (")", .int (-1))] (.idx (.var 0) (.var 5)) (.cst (.int 0)))), (.augN 5 .add (.cst (.int 1)))])]), (.ret (.bin .add (.var 2) (.lst [(.slice (.var 0) (some (.var 3)) none)])))]
/-- combined: slots 0=word 1=parts -/
noncomputable def b_combined : List CS := [(.ifS (.cmp .inD (.cst .non) (.var 1)) [(.ret (.cst .non))] []), (.ret (.ite (.cmp .eq (.bi .len [(.var 1)]) (.cst (.int 1))) (.idx (.var 1) (.cst (.int 0))) (.tup [(.var 0), (.bi .tuple [(.var 1)])])))]
/-- condition_of: slots 0=text 1=left 2=piece -/
noncomputable def b_condition_of : List CS := [(.ifS (.cmp .eq (.var 1) (.cst (.int 0))) [(.ret (.cst .non))] []), (.ret (.call i_combined 2 2 0 [.pos 0, .pos 1] [(.cst (.str "or")), (.lc (.call i_conjunction_of 2 2 0 [.pos 0, .pos 1] [(.var 2), (.var 1)] []) (.nm 2) [2] .seq [(.call i_pieces_of 2 2 0 [.pos 0, .pos 1] [(.var 0), (.cst (.str " or "))] [])] [])] []))]
/-- conjunction_of: slots 0=text 1=left 2=piece -/
noncomputable def b_conjunction_of : List CS := [(.ret (.call i_combined 2 2 0 [.pos 0, .pos 1] [(.cst (.str "and")), (.lc (.call i_unit_of 2 2 0 [.pos 0, .pos 1] [(.var 2), (.var 1)] []) (.nm 2) [2] .seq [(.call i_pieces_of 2 2 0 [.pos 0, .pos 1] [(.var 0), (.cst (.str " and "))] [])] [])] []))]
/-- unit_of: slots 0=text 1=left 2=is_wanted 3=term 4=pieces -/
noncomputable def b_unit_of : List CS := [(.ifS (.cmp .eq (.slice (.var 0) none (some (.cst (.int 1)))) (.cst (.str "("))) [(.ret (.ite (.cmp .eq (.idx (.var 0) (.neg (.cst (.int 1)))) (.cst (.str ")"))) (.call i_condition_of 2 2 0 [.pos 0, .pos 1] [(.slice (.var 0) (some (.cst (.int 1))) (some (.neg (.cst (.int 1))))), (.bin .sub (.var 1) (.cst (.int 1)))] []) (.cst .non)))] []), (.ifS (.and (.cmp .inF (.slice (.var 0) none (some (.cst (.int 4)))) (.tup [(.cst (.str "any(")), (.cst (.str "all("))])) (.cmp .eq (.idx (.var 0) (.neg (.cst (.int 1)))) (.cst (.str ")")))) [(.asg (.nm 4) (.call i_pieces_of 2 2 0 [.pos 0, .pos 1] [(.slice (.var 0) (some (.cst (.int 4))) (some (.neg (.cst (.int 1))))), (.cst (.str ": "))] [])), (.ifS (.cmp .eq (.bi .len [(.var 4)]) (.cst (.int 2))) [(.ret (.call i_search_of 3 3 0 [.pos 0, .pos 1, .pos 2] [(.slice (.var 0) none (some (.cst (.int 3)))), (.idx (.var 4) (.cst (.int 0))), (.call i_condition_of 2 2 0 [.pos 0, .pos 1] [(.idx (.var 4) (.cst (.int 1))), (.bin .sub (.var 1) (.cst (.int 1)))] [])] []))] [])] []), (.asg (.nm 2) (.cmp .ne (.slice (.var 0) none (some (.cst (.int 4)))) (.cst (.str "not ")))), (.asg (.nm 3) (.call i_term_of 1 1 0 [.pos 0] [(.ite (.var 2) (.var 0) (.slice (.var 0) (some (.cst (.int 4))) none))] [])), (.ret (.ite (.cmp .is (.var 3) (.cst .non)) (.cst .non) (.tup [(.cst (.str "ask")), (.var 3), (.var 2)])))]
/-- search_of: slots 0=word 1=text 2=part 3=term -/
noncomputable def b_search_of : List CS := [(.asg (.nm 3) (.call i_term_of 1 1 0 [.pos 0] [(.var 1)] [])), (.ret (.ite (.or (.cmp .is (.var 3) (.cst .non)) (.cmp .is (.var 2) (.cst .non))) (.cst .non) (.tup [(.var 0), (.var 3), (.var 2)])))]
/-- part_words: slots 0=word 1=part 2=text -/
noncomputable def b_part_words : List CS := [(.asg (.nm 2) (.call i_condition_words 1 1 0 [.pos 0] [(.var 1)] [])), (.ret (.ite (.cmp .inF (.idx (.var 1) (.cst (.int 0))) (.gix "IN_PARENTHESES" [("and", .wds ["and", "or"]), ("or", .wds ["or"])] (.var 0))) (.fst [(.cst (.str "(")), (.fmt (.var 2)), (.cst (.str ")"))]) (.var 2)))]
/-- condition_words: slots 0=condition 1=word 2=part -/
noncomputable def b_condition_words : List CS := [(.asg (.nm 1) (.idx (.var 0) (.cst (.int 0)))), (.ifS (.cmp .eq (.var 1) (.cst (.str "ask"))) [(.ret (.ite (.idx (.var 0) (.cst (.int 2))) (.call i_value_text 1 1 0 [.pos 0] [(.idx (.var 0) (.cst (.int 1)))] []) (.fst [(.cst (.str "not ")), (.fmt (.call i_value_text 1 1 0 [.pos 0] [(.idx (.var 0) (.cst (.int 1)))] []))])))] []), (.ifS (.gin "IN_PARENTHESES" [("and", .wds ["and", "or"]), ("or", .wds ["or"])] (.var 1)) [(.ret (.mt .join (.fst [(.cst (.str " ")), (.fmt (.var 1)), (.cst (.str " "))]) [(.lc (.call i_part_words 2 2 0 [.pos 0, .pos 1] [(.var 1), (.var 2)] []) (.nm 2) [2] .seq [(.idx (.var 0) (.cst (.int 1)))] [])]))] []), (.ret (.fst [(.fmt (.var 1)), (.cst (.str "(")), (.fmt (.call i_value_text 1 1 0 [.pos 0] [(.idx (.var 0) (.cst (.int 1)))] [])), (.cst (.str ": ")), (.fmt (.call i_condition_words 1 1 0 [.pos 0] [(.idx (.var 0) (.cst (.int 2)))] [])), (.cst (.str ")"))]))]
/-- need_read: slots 0=good -/
noncomputable def b_need_read : List CS := [(.ifS (.not (.var 0)) [(.raise 6)] [])]
/-- stands_somewhere: slots 0=thing 1=level -/
noncomputable def b_stands_somewhere : List CS := [(.ret (.bi .any [(.lc (.call i_is_condition 3 3 0 [.pos 0, .pos 1, .pos 2] [(.var 0), (.var 1), (.cst .non)] []) (.nm 1) [1] .seq [(.glb "LEVELS" (.tup [(.int 1), (.int 2), (.int 3)]))] [])]))]
/-- condition_text: slots 0=condition -/
noncomputable def b_condition_text : List CS := [(.ifS (.not (.call i_stands_somewhere 1 1 0 [.pos 0] [(.var 0)] [])) [(.raise 3)] []), (.ret (.call i_condition_words 1 1 0 [.pos 0] [(.var 0)] []))]
/-- read_condition: slots 0=text 1=found -/
noncomputable def b_read_condition : List CS := [(.asg (.nm 1) (.ite (.isi (.inl "str") (.var 0)) (.call i_condition_of 2 2 0 [.pos 0, .pos 1] [(.var 0), (.glb "MOST_NESTED" (.int 101))] []) (.cst .non))), (.expr (.call i_need_read 1 1 0 [.pos 0] [(.call i_stands_somewhere 1 1 0 [.pos 0] [(.var 1)] [])] [])), (.expr (.call i_need_read 1 1 0 [.pos 0] [(.cmp .eq (.call i_condition_words 1 1 0 [.pos 0] [(.var 1)] []) (.var 0))] [])), (.ret (.var 1))]
/-- _law_begin: slots 0=_law_script 1=_law_cells 2=_law_cell -/
noncomputable def b__law_begin : List CS := [(.asg (.nm 1) (.lc (.bi .abs [(.var 2)]) (.nm 2) [2] .seq [(.var 0)] [])), (.ret (.dic [(.cst (.str "large")), (.cst (.str "cells")), (.cst (.str "rest")), (.cst (.str "turn"))] [(.lc (.bin .sub (.var 2) (.bin .pow (.cst (.int 10)) (.cst (.int 18)))) (.nm 2) [2] .seq [(.var 1)] [(.cmp .ge (.var 2) (.bin .pow (.cst (.int 10)) (.cst (.int 18))))]), (.var 1), (.cst (.int 0)), (.cst (.int 0))]))]
/-- _law_draw: slots 0=_law_state 1=_law_size 2=_law_turn 3=_law_cell 4=_law_mixed 5=_law_found -/
noncomputable def b__law_draw : List CS := [(.whileS (.and (.cmp .eq (.idx (.var 0) (.cst (.str "rest"))) (.cst (.int 0))) (.cmp .ne (.idx (.var 0) (.cst (.str "large"))) (.lst []))) [(.setI (.var 0) (.cst (.str "rest")) (.mt .popAt (.idx (.var 0) (.cst (.str "large"))) [(.cst (.int 0))]))]), (.ifS (.cmp .gt (.idx (.var 0) (.cst (.str "rest"))) (.cst (.int 0))) [(.asg (.nm 5) (.bin .mod (.bi .int [(.idx (.var 0) (.cst (.str "rest")))]) (.var 1))), (.setI (.var 0) (.cst (.str "rest")) (.bin .fdiv (.idx (.var 0) (.cst (.str "rest"))) (.var 1))), (.ret (.var 5))] []), (.asg (.nm 2) (.bin .add (.idx (.var 0) (.cst (.str "turn"))) (.cst (.int 1)))), (.setI (.var 0) (.cst (.str "turn")) (.var 2)), (.asg (.nm 3) (.ite (.cmp .ne (.idx (.var 0) (.cst (.str "cells"))) (.lst [])) (.idx (.idx (.var 0) (.cst (.str "cells"))) (.bin .mod (.bi .int [(.var 2)]) (.bi .len [(.idx (.var 0) (.cst (.str "cells")))]))) (.cst (.int 0)))), (.asg (.nm 4) (.bin .mod (.bi .int [(.bin .pow (.bin .add (.bin .add (.bin .mod (.bi .int [(.var 3)]) (.cst (.int 2147483629))) (.bin .mul (.cst (.int 69621)) (.var 2))) (.cst (.int 12345))) (.cst (.int 3)))]) (.cst (.int 2147483647)))), (.ret (.bin .mod (.bi .int [(.bin .fdiv (.bin .mod (.bi .int [(.bin .pow (.bin .add (.var 4) (.bin .mul (.cst (.int 104729)) (.var 2))) (.cst (.int 5)))]) (.cst (.int 2147483587))) (.cst (.int 13)))]) (.var 1)))]
/-- _law_pick: slots 0=_law_state 1=_law_some -/
noncomputable def b__law_pick : List CS := [(.ret (.idx (.var 1) (.call i__law_draw 2 2 0 [.pos 0, .pos 1] [(.var 0), (.bi .len [(.var 1)])] [])))]
/-- _law_name: slots 0=_law_state 1=_law_way 2=_law_letters 3=_law_rest 4=_law_k -/
noncomputable def b__law_name : List CS := [(.asg (.nm 1) (.call i__law_draw 2 2 0 [.pos 0, .pos 1] [(.var 0), (.cst (.int 6))] [])), (.ifS (.cmp .lt (.var 1) (.cst (.int 3))) [(.ret (.call i__law_pick 2 2 0 [.pos 0, .pos 1] [(.var 0), (.lst [(.cst (.str "p")), (.cst (.str "q")), (.cst (.str "f")), (.cst (.str "g"))])] []))] []), (.ifS (.cmp .eq (.var 1) (.cst (.int 3))) [(.ret (.call i__law_pick 2 2 0 [.pos 0, .pos 1] [(.var 0), (.lst [(.cst (.str "any")), (.cst (.str "all")), (.cst (.str "not")), (.cst (.str "and")), (.cst (.str "or")), (.cst (.str "then")), (.cst (.str "else")), (.cst (.str "source")), (.cst (.str "x1")), (.cst (.str "emit")), (.cst (.str "if")), (.cst (.str "for"))])] []))] []), (.asg (.nm 2) (.cst (.str "abcdefghijklmnopqrstuvwxyz"))), (.asg (.nm 3) (.lc (.call i__law_pick 2 2 0 [.pos 0, .pos 1] [(.var 0), (.bin .add (.var 2) (.cst (.str "0123456789")))] []) (.nm 4) [4] .rg1 [(.call i__law_draw 2 2 0 [.pos 0, .pos 1] [(.var 0), (.cst (.int 8))] [])] [])), (.ret (.bin .add (.call i__law_pick 2 2 0 [.pos 0, .pos 1] [(.var 0), (.var 2)] []) (.mt .join (.cst (.str "")) [(.var 3)])))]
/-- _law_height: slots 0=_law_value_here 1=_law_each -/
noncomputable def b__law_height : List CS := [(.ifS (.isi (.inl "int") (.var 0)) [(.ret (.cst (.int 0)))] []), (.ret (.bin .add (.cst (.int 1)) (.bi .maxL [(.lc (.call i__law_height 1 1 0 [.pos 0] [(.var 1)] []) (.nm 1) [1] .seq [(.slice (.var 0) (some (.cst (.int 1))) none)] [])])))]
/-- _law_value: slots 0=_law_state 1=_law_level 2=_law_called -/
noncomputable def b__law_value : List CS := [(.ifS (.and (.cmp .ne (.var 2) (.lst [])) (.cmp .eq (.call i__law_draw 2 2 0 [.pos 0, .pos 1] [(.var 0), (.cst (.int 2))] []) (.cst (.int 0)))) [(.ret (.call i__law_pick 2 2 0 [.pos 0, .pos 1] [(.var 0), (.lst [(.idx (.var 2) (.neg (.cst (.int 1)))), (.idx (.var 2) (.neg (.cst (.int 1)))), (.call i__law_pick 2 2 0 [.pos 0, .pos 1] [(.var 0), (.var 2)] [])])] []))] []), (.ret (.call i__law_pick 2 2 0 [.pos 0, .pos 1] [(.var 0), (.lst [(.var 1), (.var 1), (.bin .add (.cst (.int 1)) (.call i__law_draw 2 2 0 [.pos 0, .pos 1] [(.var 0), (.var 1)] []))])] []))]
/-- _law_term: slots 0=_law_state 1=_law_names 2=_law_level 3=_law_called 4=_law_low 5=_law_values 6=_law_each 7=_law_k -/
noncomputable def b__law_term : List CS := [(.asg (.nm 4) (.lc (.var 6) (.nm 6) [6] .seq [(.var 3)] [(.cmp .lt (.call i__law_height 1 1 0 [.pos 0] [(.var 6)] []) (.cst (.int 4)))])), (.asg (.nm 5) (.lc (.call i__law_value 3 3 0 [.pos 0, .pos 1, .pos 2] [(.var 0), (.var 2), (.var 4)] []) (.nm 7) [7] .rg1 [(.bin .add (.cst (.int 1)) (.call i__law_draw 2 2 0 [.pos 0, .pos 1] [(.var 0), (.cst (.int 2))] []))] [])), (.ret (.bin .add (.tup [(.call i__law_pick 2 2 0 [.pos 0, .pos 1] [(.var 0), (.var 1)] [])]) (.bi .tuple [(.var 5)])))]
/-- _law_condition: slots 0=_law_state 1=_law_names 2=_law_level 3=_law_called 4=_law_room 5=_law_way 6=_law_many 7=_law_parts 8=_law_part 9=_law_k -/
noncomputable def b__law_condition : List CS := [(.asg (.nm 5) (.ite (.cmp .gt (.var 4) (.cst (.int 1))) (.call i__law_draw 2 2 0 [.pos 0, .pos 1] [(.var 0), (.cst (.int 7))] []) (.cst (.int 0)))), (.ifS (.and (.cmp .gt (.var 5) (.cst (.int 4))) (.cmp .lt (.var 2) (.cst (.int 3)))) [(.asg (.nm 8) (.call i__law_condition 5 5 0 [.pos 0, .pos 1, .pos 2, .pos 3, .pos 4] [(.var 0), (.var 1), (.bin .add (.var 2) (.cst (.int 1))), (.var 3), (.bin .sub (.var 4) (.cst (.int 1)))] [])), (.ret (.tup [(.call i__law_pick 2 2 0 [.pos 0, .pos 1] [(.var 0), (.lst [(.cst (.str "any")), (.cst (.str "all"))])] []), (.call i__law_term 4 4 0 [.pos 0, .pos 1, .pos 2, .pos 3] [(.var 0), (.var 1), (.var 2), (.var 3)] []), (.var 8)]))] []), (.ifS (.or (.cmp .lt (.var 5) (.cst (.int 2))) (.cmp .gt (.var 5) (.cst (.int 4)))) [(.ret (.tup [(.cst (.str "ask")), (.call i__law_term 4 4 0 [.pos 0, .pos 1, .pos 2, .pos 3] [(.var 0), (.var 1), (.var 2), (.var 3)] []), (.cmp .eq (.call i__law_draw 2 2 0 [.pos 0, .pos 1] [(.var 0), (.cst (.int 2))] []) (.cst (.int 0)))]))] []), (.asg (.nm 6) (.bin .add (.cst (.int 2)) (.call i__law_draw 2 2 0 [.pos 0, .pos 1] [(.var 0), (.bi .min2 [(.cst (.int 2)), (.bin .sub (.var 4) (.cst (.int 1)))])] []))), (.asg (.nm 7) (.lc (.call i__law_condition 5 5 0 [.pos 0, .pos 1, .pos 2, .pos 3, .pos 4] [(.var 0), (.var 1), (.var 2), (.var 3), (.bin .fdiv (.var 4) (.var 6))] []) (.nm 9) [9] .rg1 [(.var 6)] [])), (.ret (.tup [(.call i__law_pick 2 2 0 [.pos 0, .pos 1] [(.var 0), (.lst [(.cst (.str "and")), (.cst (.str "or"))])] []), (.bi .tuple [(.var 7)])]))]
/-- _law_value_text: slots 0=_law_value_here 1=_law_one -/
noncomputable def b__law_value_text : List CS := [(.ifS (.isi (.inl "int") (.var 0)) [(.ret (.bin .add (.cst (.str "x")) (.bi .str [(.var 0)])))] []), (.ret (.bin .add (.bin .add (.bin .add (.idx (.var 0) (.cst (.int 0))) (.cst (.str "("))) (.mt .join (.cst (.str ", ")) [(.lc (.call i__law_value_text 1 1 0 [.pos 0] [(.var 1)] []) (.nm 1) [1] .seq [(.slice (.var 0) (some (.cst (.int 1))) none)] [])])) (.cst (.str ")"))))]
/-- _law_condition_text: slots 0=_law_condition_here 1=_law_word 2=_law_found 3=_law_part 4=_law_inner 5=_law_text -/
noncomputable def b__law_condition_text : List CS := [(.asg (.nm 1) (.idx (.var 0) (.cst (.int 0)))), (.ifS (.cmp .eq (.var 1) (.cst (.str "ask"))) [(.ret (.bin .add (.idx (.lst [(.cst (.str "not ")), (.cst (.str ""))]) (.bi .int [(.idx (.var 0) (.cst (.int 2)))])) (.call i__law_value_text 1 1 0 [.pos 0] [(.idx (.var 0) (.cst (.int 1)))] [])))] []), (.ifS (.cmp .inF (.var 1) (.tup [(.cst (.str "any")), (.cst (.str "all"))])) [(.asg (.nm 4) (.call i__law_condition_text 1 1 0 [.pos 0] [(.idx (.var 0) (.cst (.int 2)))] [])), (.ret (.bin .add (.bin .add (.bin .add (.bin .add (.bin .add (.var 1) (.cst (.str "("))) (.call i__law_value_text 1 1 0 [.pos 0] [(.idx (.var 0) (.cst (.int 1)))] [])) (.cst (.str ": "))) (.var 4)) (.cst (.str ")"))))] []), (.asg (.nm 2) (.lst [])), (.forS (.nm 3) .seq [(.idx (.var 0) (.cst (.int 1)))] [(.asg (.nm 5) (.call i__law_condition_text 1 1 0 [.pos 0] [(.var 3)] [])), (.expr (.mt .append (.var 2) [(.ite (.cmp .inF (.idx (.var 3) (.cst (.int 0))) (.tup [(.cst (.str "or")), (.var 1)])) (.bin .add (.bin .add (.cst (.str "(")) (.var 5)) (.cst (.str ")"))) (.var 5))]))]), (.ret (.mt .join (.bin .add (.bin .add (.cst (.str " ")) (.var 1)) (.cst (.str " "))) [(.var 2)]))]
/-- _law_told: slots 0=_law_work 1=error 2=_law_truths 3=_law_found 4=_law_caught -/
noncomputable def b__law_told : List CS := [(.asg (.tp [3, 4]) (.tup [(.cst .non), (.cst .non)])), (.tryL [0, 1, 2, 3, 4, 5, 6] 1 (.lst 3) [(.asg (.nm 4) (.var 1))] [(.ifS (.cmp .is (.var 4) (.cst .non)) [(.ret (.var 3))] []), .never, .never, .never] [.nev])]
/-- _law_right: slots 0=_law_condition_here 1=_law_text 2=_law_shown -/
noncomputable def b__law_right : List CS := [(.asg (.tp [1, 2]) (.tup [(.call i__law_condition_text 1 1 0 [.pos 0] [(.var 0)] []), (.bi .repr [(.var 0)])])), (.ifS (.or (.cmp .ne (.bi .repr [(.lam 41 (.call i_condition_text 1 1 0 [.pos 0] [(.var 0)] []))]) (.bi .repr [(.lst [(.var 1)])])) (.cmp .ne (.bi .repr [(.var 0)]) (.var 2))) [(.ret (.cst (.bl false)))] []), (.ret (.cmp .eq (.bi .repr [(.lam 41 (.call i_read_condition 1 1 0 [.pos 0] [(.var 1)] []))]) (.bi .repr [(.lst [(.var 0)])])))]
/-- law: slots 0=_law_script 1=_law_state 2=_law_turn 3=_law_k 4=_law_names 5=_law_level 6=_law_called -/
noncomputable def b_law : List CS := [(.asg (.nm 1) (.call i__law_begin 1 1 0 [.pos 0] [(.var 0)] [])), (.forS (.nm 2) .rg1 [(.cst (.int 8))] [(.par3 4 5 6 (.lc (.call i__law_name 1 1 0 [.pos 0] [(.var 1)] []) (.nm 3) [3] .rg1 [(.cst (.int 3))] []) (.bin .add (.cst (.int 1)) (.call i__law_draw 2 2 0 [.pos 0, .pos 1] [(.var 1), (.cst (.int 3))] [])) (.lst [])), (.forS (.nm 3) .rg1 [(.call i__law_draw 2 2 0 [.pos 0, .pos 1] [(.var 1), (.cst (.int 4))] [])] [(.expr (.mt .append (.var 6) [(.call i__law_term 4 4 0 [.pos 0, .pos 1, .pos 2, .pos 3] [(.var 1), (.var 4), (.var 5), (.var 6)] [])]))]), (.ifS (.not (.call i__law_right 1 1 0 [.pos 0] [(.call i__law_condition 5 5 0 [.pos 0, .pos 1, .pos 2, .pos 3, .pos 4] [(.var 1), (.var 4), (.var 5), (.var 6), (.call i__law_pick 2 2 0 [.pos 0, .pos 1] [(.var 1), (.lst [(.cst (.int 1)), (.cst (.int 2)), (.cst (.int 4)), (.cst (.int 8)), (.cst (.int 12))])] [])] [])] [])) [(.ret (.cst (.bl false)))] [])]), (.ret (.cst (.bl true)))]
noncomputable def prog : Prog3 := [(0, ⟨1, 1, b_is_number⟩), (1, ⟨1, 2, b_is_name⟩), (2, ⟨2, 4, b_measured⟩), (3, ⟨1, 1, b_is_value⟩), (4, ⟨1, 1, b_is_term⟩), (5, ⟨1, 2, b_sizes_of⟩), (6, ⟨1, 1, b_highest⟩), (7, ⟨2, 2, b_need_value⟩), (8, ⟨1, 2, b_text_of⟩), (9, ⟨1, 1, b_value_text⟩), (10, ⟨2, 2, b_name_end⟩), (11, ⟨3, 7, b_read_at⟩), (12, ⟨1, 2, b_read_value⟩), (13, ⟨3, 3, b_may_useC⟩), (14, ⟨3, 4, b_may_call⟩), (15, ⟨1, 1, b_is_shaped⟩), (16, ⟨3, 10, b_is_condition⟩), (17, ⟨1, 2, b_value_of⟩), (18, ⟨1, 2, b_term_of⟩), (19, ⟨2, 6, b_pieces_of⟩), (20, ⟨2, 2, b_combined⟩), (21, ⟨2, 3, b_condition_of⟩), (22, ⟨2, 3, b_conjunction_of⟩), (23, ⟨2, 5, b_unit_of⟩), (24, ⟨3, 4, b_search_of⟩), (25, ⟨2, 3, b_part_words⟩), (26, ⟨1, 3, b_condition_words⟩), (27, ⟨1, 1, b_need_read⟩), (28, ⟨1, 2, b_stands_somewhere⟩), (29, ⟨1, 1, b_condition_text⟩), (30, ⟨1, 2, b_read_condition⟩), (31, ⟨1, 3, b__law_begin⟩), (32, ⟨2, 6, b__law_draw⟩), (33, ⟨2, 2, b__law_pick⟩), (34, ⟨1, 5, b__law_name⟩), (35, ⟨1, 2, b__law_height⟩), (36, ⟨3, 3, b__law_value⟩), (37, ⟨4, 8, b__law_term⟩), (38, ⟨5, 10, b__law_condition⟩), (39, ⟨1, 2, b__law_value_text⟩), (40, ⟨1, 6, b__law_condition_text⟩), (41, ⟨1, 5, b__law_told⟩), (42, ⟨1, 3, b__law_right⟩), (43, ⟨1, 7, b_law⟩)]
noncomputable abbrev Sh (f n : Nat) (ks : List Str) (np : Nat) (g : List Src) : (Nat × Nat × List Str) × (Nat × List Src) := ((f, n, ks), (np, g))
noncomputable abbrev s42 : Stmt := top 68
noncomputable def L : TabL where
  fn := [(("is_number" : Str), 0), (("is_name" : Str), 1), (("measured" : Str), 2), (("is_value" : Str), 3), (("is_term" : Str), 4), (("sizes_of" : Str), 5), (("highest" : Str), 6), (("need_value" : Str), 7), (("text_of" : Str), 8), (("value_text" : Str), 9), (("name_end" : Str), 10), (("read_at" : Str), 11), (("read_value" : Str), 12), (("may_use" : Str), 13), (("may_call" : Str), 14), (("is_shaped" : Str), 15), (("is_condition" : Str), 16), (("value_of" : Str), 17), (("term_of" : Str), 18), (("pieces_of" : Str), 19), (("combined" : Str), 20), (("condition_of" : Str), 21), (("conjunction_of" : Str), 22), (("unit_of" : Str), 23), (("search_of" : Str), 24), (("part_words" : Str), 25), (("condition_words" : Str), 26), (("need_read" : Str), 27), (("stands_somewhere" : Str), 28), (("condition_text" : Str), 29), (("read_condition" : Str), 30), (("_law_begin" : Str), 31), (("_law_draw" : Str), 32), (("_law_pick" : Str), 33), (("_law_name" : Str), 34), (("_law_height" : Str), 35), (("_law_value" : Str), 36), (("_law_term" : Str), 37), (("_law_condition" : Str), 38), (("_law_value_text" : Str), 39), (("_law_condition_text" : Str), 40), (("_law_right" : Str), 42)]
  cls := [("LoopError", 0), ("NoValue", 1), ("NoCondition", 3), ("NoText", 6)]
  glb := [("DEEPEST", (.int 100)), ("HIGHEST_LEVEL", (.int 3)), ("LETTERS", (.str "abcdefghijklmnopqrstuvwxyz")), ("LEVELS", (.tup [(.int 1), (.int 2), (.int 3)])), ("MOST_ASKS", (.int 400)), ("MOST_HEIGHT", (.int 4)), ("MOST_LEVEL", (.int 3)), ("MOST_NESTED", (.int 101)), ("MOST_SIGNS", (.int 8)), ("SIGNS", (.str "abcdefghijklmnopqrstuvwxyz0123456789"))]
  blt := ["abs", "all", "any", "bool", "int", "isinstance", "len", "max", "min", "range", "repr", "str", "tuple"]
  shape := [Sh 0 1 [] 1 [.pos 0], Sh 1 1 [] 1 [.pos 0], Sh 2 2 [] 2 [.pos 0, .pos 1], Sh 3 1 [] 1 [.pos 0], Sh 4 1 [] 1 [.pos 0], Sh 5 1 [] 1 [.pos 0], Sh 6 1 [] 1 [.pos 0], Sh 7 1 [] 2 [.pos 0, .dfl (.int 3)], Sh 8 1 [] 1 [.pos 0], Sh 9 1 [] 1 [.pos 0], Sh 10 2 [] 2 [.pos 0, .pos 1], Sh 11 3 [] 3 [.pos 0, .pos 1, .pos 2], Sh 12 1 [] 1 [.pos 0], Sh 13 3 [] 3 [.pos 0, .pos 1, .pos 2], Sh 14 3 [] 3 [.pos 0, .pos 1, .pos 2], Sh 15 1 [] 1 [.pos 0], Sh 16 3 [] 3 [.pos 0, .pos 1, .pos 2], Sh 17 1 [] 1 [.pos 0], Sh 18 1 [] 1 [.pos 0], Sh 19 2 [] 2 [.pos 0, .pos 1], Sh 20 2 [] 2 [.pos 0, .pos 1], Sh 21 2 [] 2 [.pos 0, .pos 1], Sh 22 2 [] 2 [.pos 0, .pos 1], Sh 23 2 [] 2 [.pos 0, .pos 1], Sh 24 3 [] 3 [.pos 0, .pos 1, .pos 2], Sh 25 2 [] 2 [.pos 0, .pos 1], Sh 26 1 [] 1 [.pos 0], Sh 27 1 [] 1 [.pos 0], Sh 28 1 [] 1 [.pos 0], Sh 29 1 [] 1 [.pos 0], Sh 30 1 [] 1 [.pos 0], Sh 31 1 [] 1 [.pos 0], Sh 32 2 [] 2 [.pos 0, .pos 1], Sh 33 2 [] 2 [.pos 0, .pos 1], Sh 34 1 [] 1 [.pos 0], Sh 35 1 [] 1 [.pos 0], Sh 36 3 [] 3 [.pos 0, .pos 1, .pos 2], Sh 37 4 [] 4 [.pos 0, .pos 1, .pos 2, .pos 3], Sh 38 5 [] 5 [.pos 0, .pos 1, .pos 2, .pos 3, .pos 4], Sh 39 1 [] 1 [.pos 0], Sh 40 1 [] 1 [.pos 0], Sh 42 1 [] 1 [.pos 0]]
  init := []
  own := []
  ownL := []
  ownB := []
  xcl := [0, 1, 2, 3, 4, 5, 6]
  xkit := []
  mth := []
  attr := []
  exc := [1, 3, 6]
  tch := [("LoopError", [0, 1, 2, 3, 4, 5, 6]), ("NoText", [6])]
  gdc := [("IN_PARENTHESES", [("and", .wds ["and", "or"]), ("or", .wds ["or"])]), ("SIDES", [("(", .int 1), (")", .int (-1))])]
  lamD := [("_law_told", 41)]
  lamS := [(defScope s42).names]
  lamM := [(42, 0)]
noncomputable abbrev kit : Kit := kitPlain
noncomputable abbrev s0 : Stmt := top 14
noncomputable def d0 : DefT := ⟨0, "is_number", "is_number", s0, ["thing"], ["thing"], 60⟩
theorem ok0 : d0.ok L.tab prog = true := by decide +kernel
noncomputable abbrev s1 : Stmt := top 15
noncomputable def d1 : DefT := ⟨1, "is_name", "is_name", s1, ["thing", "sign"], ["thing"], 60⟩
theorem ok1 : d1.ok L.tab prog = true := by decide +kernel
noncomputable abbrev s2 : Stmt := top 16
noncomputable def d2 : DefT := ⟨2, "measured", "measured", s2, ["thing", "room", "parts", "part"], ["thing", "room"], 60⟩
theorem ok2 : d2.ok L.tab prog = true := by decide +kernel
noncomputable abbrev s3 : Stmt := top 17
noncomputable def d3 : DefT := ⟨3, "is_value", "is_value", s3, ["thing"], ["thing"], 60⟩
theorem ok3 : d3.ok L.tab prog = true := by decide +kernel
noncomputable abbrev s4 : Stmt := top 18
noncomputable def d4 : DefT := ⟨4, "is_term", "is_term", s4, ["thing"], ["thing"], 60⟩
theorem ok4 : d4.ok L.tab prog = true := by decide +kernel
noncomputable abbrev s5 : Stmt := top 19
noncomputable def d5 : DefT := ⟨5, "sizes_of", "sizes_of", s5, ["value", "found"], ["value"], 60⟩
theorem ok5 : d5.ok L.tab prog = true := by decide +kernel
noncomputable abbrev s6 : Stmt := top 20
noncomputable def d6 : DefT := ⟨6, "highest", "highest", s6, ["value"], ["value"], 60⟩
theorem ok6 : d6.ok L.tab prog = true := by decide +kernel
noncomputable abbrev s7 : Stmt := top 21
noncomputable def d7 : DefT := ⟨7, "need_value", "need_value", s7, ["value", "level"], ["value", "level"], 60⟩
theorem ok7 : d7.ok L.tab prog = true := by decide +kernel
noncomputable abbrev s8 : Stmt := top 22
noncomputable def d8 : DefT := ⟨8, "text_of", "text_of", s8, ["value", "part"], ["value"], 60⟩
theorem ok8 : d8.ok L.tab prog = true := by decide +kernel
noncomputable abbrev s9 : Stmt := top 23
noncomputable def d9 : DefT := ⟨9, "value_text", "value_text", s9, ["value"], ["value"], 60⟩
theorem ok9 : d9.ok L.tab prog = true := by decide +kernel
noncomputable abbrev s10 : Stmt := top 24
noncomputable def d10 : DefT := ⟨10, "name_end", "name_end", s10, ["text", "at"], ["text", "at"], 60⟩
theorem ok10 : d10.ok L.tab prog = true := by decide +kernel
noncomputable abbrev s11 : Stmt := top 25
noncomputable def d11 : DefT := ⟨11, "read_at", "read_at", s11, ["text", "at", "room", "end", "name", "parts", "found"], ["text", "at", "room"], 60⟩
theorem ok11 : d11.ok L.tab prog = true := by decide +kernel
noncomputable abbrev s12 : Stmt := top 26
noncomputable def d12 : DefT := ⟨12, "read_value", "read_value", s12, ["text", "found"], ["text"], 60⟩
theorem ok12 : d12.ok L.tab prog = true := by decide +kernel
noncomputable abbrev s13 : Stmt := top 31
noncomputable def d13 : DefT := ⟨13, "may_use", "may_use", s13, ["value", "level", "called"], ["value", "level", "called"], 60⟩
theorem ok13 : d13.ok L.tab prog = true := by decide +kernel
noncomputable abbrev s14 : Stmt := top 32
noncomputable def d14 : DefT := ⟨14, "may_call", "may_call", s14, ["term", "level", "called", "value"], ["term", "level", "called"], 60⟩
theorem ok14 : d14.ok L.tab prog = true := by decide +kernel
noncomputable abbrev s15 : Stmt := top 33
noncomputable def d15 : DefT := ⟨15, "is_shaped", "is_shaped", s15, ["thing"], ["thing"], 60⟩
theorem ok15 : d15.ok L.tab prog = true := by decide +kernel
noncomputable abbrev s16 : Stmt := top 34
noncomputable def d16 : DefT := ⟨16, "is_condition", "is_condition", s16, ["thing", "level", "called", "line", "count", "known", "part", "at", "nest", "one"], ["thing", "level", "called"], 60⟩
theorem ok16 : d16.ok L.tab prog = true := by decide +kernel
noncomputable abbrev s17 : Stmt := top 38
noncomputable def d17 : DefT := ⟨17, "value_of", "value_of", s17, ["text", "found"], ["text"], 60⟩
theorem ok17 : d17.ok L.tab prog = true := by decide +kernel
noncomputable abbrev s18 : Stmt := top 39
noncomputable def d18 : DefT := ⟨18, "term_of", "term_of", s18, ["text", "found"], ["text"], 60⟩
theorem ok18 : d18.ok L.tab prog = true := by decide +kernel
noncomputable abbrev s19 : Stmt := top 40
noncomputable def d19 : DefT := ⟨19, "pieces_of", "pieces_of", s19, ["text", "mark", "found", "begin", "depth", "at"], ["text", "mark"], 60⟩
theorem ok19 : d19.ok L.tab prog = true := by decide +kernel
noncomputable abbrev s20 : Stmt := top 41
noncomputable def d20 : DefT := ⟨20, "combined", "combined", s20, ["word", "parts"], ["word", "parts"], 60⟩
theorem ok20 : d20.ok L.tab prog = true := by decide +kernel
noncomputable abbrev s21 : Stmt := top 42
noncomputable def d21 : DefT := ⟨21, "condition_of", "condition_of", s21, ["text", "left", "piece"], ["text", "left"], 60⟩
theorem ok21 : d21.ok L.tab prog = true := by decide +kernel
noncomputable abbrev s22 : Stmt := top 43
noncomputable def d22 : DefT := ⟨22, "conjunction_of", "conjunction_of", s22, ["text", "left", "piece"], ["text", "left"], 60⟩
theorem ok22 : d22.ok L.tab prog = true := by decide +kernel
noncomputable abbrev s23 : Stmt := top 44
noncomputable def d23 : DefT := ⟨23, "unit_of", "unit_of", s23, ["text", "left", "is_wanted", "term", "pieces"], ["text", "left"], 60⟩
theorem ok23 : d23.ok L.tab prog = true := by decide +kernel
noncomputable abbrev s24 : Stmt := top 45
noncomputable def d24 : DefT := ⟨24, "search_of", "search_of", s24, ["word", "text", "part", "term"], ["word", "text", "part"], 60⟩
theorem ok24 : d24.ok L.tab prog = true := by decide +kernel
noncomputable abbrev s25 : Stmt := top 48
noncomputable def d25 : DefT := ⟨25, "part_words", "part_words", s25, ["word", "part", "text"], ["word", "part"], 60⟩
theorem ok25 : d25.ok L.tab prog = true := by decide +kernel
noncomputable abbrev s26 : Stmt := top 49
noncomputable def d26 : DefT := ⟨26, "condition_words", "condition_words", s26, ["condition", "word", "part"], ["condition"], 60⟩
theorem ok26 : d26.ok L.tab prog = true := by decide +kernel
noncomputable abbrev s27 : Stmt := top 52
noncomputable def d27 : DefT := ⟨27, "need_read", "need_read", s27, ["good"], ["good"], 60⟩
theorem ok27 : d27.ok L.tab prog = true := by decide +kernel
noncomputable abbrev s28 : Stmt := top 53
noncomputable def d28 : DefT := ⟨28, "stands_somewhere", "stands_somewhere", s28, ["thing", "level"], ["thing"], 60⟩
theorem ok28 : d28.ok L.tab prog = true := by decide +kernel
noncomputable abbrev s29 : Stmt := top 54
noncomputable def d29 : DefT := ⟨29, "condition_text", "condition_text", s29, ["condition"], ["condition"], 60⟩
theorem ok29 : d29.ok L.tab prog = true := by decide +kernel
noncomputable abbrev s30 : Stmt := top 55
noncomputable def d30 : DefT := ⟨30, "read_condition", "read_condition", s30, ["text", "found"], ["text"], 60⟩
theorem ok30 : d30.ok L.tab prog = true := by decide +kernel
noncomputable abbrev s31 : Stmt := top 57
noncomputable def d31 : DefT := ⟨31, "_law_begin", "_law_begin", s31, ["_law_script", "_law_cells", "_law_cell"], ["_law_script"], 60⟩
theorem ok31 : d31.ok L.tab prog = true := by decide +kernel
noncomputable abbrev s32 : Stmt := top 58
noncomputable def d32 : DefT := ⟨32, "_law_draw", "_law_draw", s32, ["_law_state", "_law_size", "_law_turn", "_law_cell", "_law_mixed", "_law_found"], ["_law_state", "_law_size"], 60⟩
theorem ok32 : d32.ok L.tab prog = true := by decide +kernel
noncomputable abbrev s33 : Stmt := top 59
noncomputable def d33 : DefT := ⟨33, "_law_pick", "_law_pick", s33, ["_law_state", "_law_some"], ["_law_state", "_law_some"], 60⟩
theorem ok33 : d33.ok L.tab prog = true := by decide +kernel
noncomputable abbrev s34 : Stmt := top 60
noncomputable def d34 : DefT := ⟨34, "_law_name", "_law_name", s34, ["_law_state", "_law_way", "_law_letters", "_law_rest", "_law_k"], ["_law_state"], 60⟩
theorem ok34 : d34.ok L.tab prog = true := by decide +kernel
noncomputable abbrev s35 : Stmt := top 61
noncomputable def d35 : DefT := ⟨35, "_law_height", "_law_height", s35, ["_law_value_here", "_law_each"], ["_law_value_here"], 60⟩
theorem ok35 : d35.ok L.tab prog = true := by decide +kernel
noncomputable abbrev s36 : Stmt := top 62
noncomputable def d36 : DefT := ⟨36, "_law_value", "_law_value", s36, ["_law_state", "_law_level", "_law_called"], ["_law_state", "_law_level", "_law_called"], 60⟩
theorem ok36 : d36.ok L.tab prog = true := by decide +kernel
noncomputable abbrev s37 : Stmt := top 63
noncomputable def d37 : DefT := ⟨37, "_law_term", "_law_term", s37, ["_law_state", "_law_names", "_law_level", "_law_called", "_law_low", "_law_values", "_law_each", "_law_k"], ["_law_state", "_law_names", "_law_level", "_law_called"], 60⟩
theorem ok37 : d37.ok L.tab prog = true := by decide +kernel
noncomputable abbrev s38 : Stmt := top 64
noncomputable def d38 : DefT := ⟨38, "_law_condition", "_law_condition", s38, ["_law_state", "_law_names", "_law_level", "_law_called", "_law_room", "_law_way", "_law_many", "_law_parts", "_law_part", "_law_k"], ["_law_state", "_law_names", "_law_level", "_law_called", "_law_room"], 60⟩
theorem ok38 : d38.ok L.tab prog = true := by decide +kernel
noncomputable abbrev s39 : Stmt := top 65
noncomputable def d39 : DefT := ⟨39, "_law_value_text", "_law_value_text", s39, ["_law_value_here", "_law_one"], ["_law_value_here"], 60⟩
theorem ok39 : d39.ok L.tab prog = true := by decide +kernel
noncomputable abbrev s40 : Stmt := top 66
noncomputable def d40 : DefT := ⟨40, "_law_condition_text", "_law_condition_text", s40, ["_law_condition_here", "_law_word", "_law_found", "_law_part", "_law_inner", "_law_text"], ["_law_condition_here"], 60⟩
theorem ok40 : d40.ok L.tab prog = true := by decide +kernel
noncomputable abbrev s41 : Stmt := top 67
noncomputable def d41 : DefT := ⟨41, "_law_told", "_law_told", s41, ["_law_work", "error", "_law_truths", "_law_found", "_law_caught"], ["_law_work"], 60⟩
theorem ok41 : d41.ok L.tab prog = true := by decide +kernel
noncomputable def d42 : DefT := ⟨42, "_law_right", "_law_right", s42, ["_law_condition_here", "_law_text", "_law_shown"], ["_law_condition_here"], 60⟩
theorem ok42 : d42.ok L.tab prog = true := by decide +kernel
noncomputable abbrev s43 : Stmt := top 69
noncomputable def d43 : DefT := ⟨43, "law", "law", s43, ["_law_script", "_law_state", "_law_turn", "_law_k", "_law_names", "_law_level", "_law_called"], ["_law_script"], 60⟩
theorem ok43 : d43.ok L.tab prog = true := by decide +kernel
noncomputable abbrev W := wpN prog kit.get
noncomputable abbrev GG (n : Nat) : G3 := gN prog kit.get n
theorem GG_kit (n : Nat) : (GG n).kit = kitPlain.get := rfl
theorem GG_call (n f : Nat) : (GG n).call f = W n f := rfl
theorem W_is_number (n : Nat) (x0 : D) (C : CH) (Q : Kv) (E : Kx) : W (n + 1) i_is_number [x0] C Q E = rdSs (GG n) (exN E) b_is_number (endN Q) [some x0] C := by
  rw [W, wpN_eq _ _ _ _ _ _ _ _ ⟨1, 1, b_is_number⟩ rfl rfl]; rfl
theorem W_is_name (n : Nat) (x0 : D) (C : CH) (Q : Kv) (E : Kx) : W (n + 1) i_is_name [x0] C Q E = rdSs (GG n) (exN E) b_is_name (endN Q) [some x0, none] C := by
  rw [W, wpN_eq _ _ _ _ _ _ _ _ ⟨1, 2, b_is_name⟩ rfl rfl]; rfl
theorem W_measured (n : Nat) (x0 x1 : D) (C : CH) (Q : Kv) (E : Kx) : W (n + 1) i_measured [x0, x1] C Q E = rdSs (GG n) (exN E) b_measured (endN Q) [some x0, some x1, none, none] C := by
  rw [W, wpN_eq _ _ _ _ _ _ _ _ ⟨2, 4, b_measured⟩ rfl rfl]; rfl
theorem W_is_value (n : Nat) (x0 : D) (C : CH) (Q : Kv) (E : Kx) : W (n + 1) i_is_value [x0] C Q E = rdSs (GG n) (exN E) b_is_value (endN Q) [some x0] C := by
  rw [W, wpN_eq _ _ _ _ _ _ _ _ ⟨1, 1, b_is_value⟩ rfl rfl]; rfl
theorem W_is_term (n : Nat) (x0 : D) (C : CH) (Q : Kv) (E : Kx) : W (n + 1) i_is_term [x0] C Q E = rdSs (GG n) (exN E) b_is_term (endN Q) [some x0] C := by
  rw [W, wpN_eq _ _ _ _ _ _ _ _ ⟨1, 1, b_is_term⟩ rfl rfl]; rfl
theorem W_sizes_of (n : Nat) (x0 : D) (C : CH) (Q : Kv) (E : Kx) : W (n + 1) i_sizes_of [x0] C Q E = rdSs (GG n) (exN E) b_sizes_of (endN Q) [some x0, none] C := by
  rw [W, wpN_eq _ _ _ _ _ _ _ _ ⟨1, 2, b_sizes_of⟩ rfl rfl]; rfl
theorem W_highest (n : Nat) (x0 : D) (C : CH) (Q : Kv) (E : Kx) : W (n + 1) i_highest [x0] C Q E = rdSs (GG n) (exN E) b_highest (endN Q) [some x0] C := by
  rw [W, wpN_eq _ _ _ _ _ _ _ _ ⟨1, 1, b_highest⟩ rfl rfl]; rfl
theorem W_need_value (n : Nat) (x0 x1 : D) (C : CH) (Q : Kv) (E : Kx) : W (n + 1) i_need_value [x0, x1] C Q E = rdSs (GG n) (exN E) b_need_value (endN Q) [some x0, some x1] C := by
  rw [W, wpN_eq _ _ _ _ _ _ _ _ ⟨2, 2, b_need_value⟩ rfl rfl]; rfl
theorem W_text_of (n : Nat) (x0 : D) (C : CH) (Q : Kv) (E : Kx) : W (n + 1) i_text_of [x0] C Q E = rdSs (GG n) (exN E) b_text_of (endN Q) [some x0, none] C := by
  rw [W, wpN_eq _ _ _ _ _ _ _ _ ⟨1, 2, b_text_of⟩ rfl rfl]; rfl
theorem W_value_text (n : Nat) (x0 : D) (C : CH) (Q : Kv) (E : Kx) : W (n + 1) i_value_text [x0] C Q E = rdSs (GG n) (exN E) b_value_text (endN Q) [some x0] C := by
  rw [W, wpN_eq _ _ _ _ _ _ _ _ ⟨1, 1, b_value_text⟩ rfl rfl]; rfl
theorem W_name_end (n : Nat) (x0 x1 : D) (C : CH) (Q : Kv) (E : Kx) : W (n + 1) i_name_end [x0, x1] C Q E = rdSs (GG n) (exN E) b_name_end (endN Q) [some x0, some x1] C := by
  rw [W, wpN_eq _ _ _ _ _ _ _ _ ⟨2, 2, b_name_end⟩ rfl rfl]; rfl
theorem W_read_at (n : Nat) (x0 x1 x2 : D) (C : CH) (Q : Kv) (E : Kx) : W (n + 1) i_read_at [x0, x1, x2] C Q E = rdSs (GG n) (exN E) b_read_at (endN Q) [some x0, some x1, some x2, none, none, none, none] C := by
  rw [W, wpN_eq _ _ _ _ _ _ _ _ ⟨3, 7, b_read_at⟩ rfl rfl]; rfl
theorem W_read_value (n : Nat) (x0 : D) (C : CH) (Q : Kv) (E : Kx) : W (n + 1) i_read_value [x0] C Q E = rdSs (GG n) (exN E) b_read_value (endN Q) [some x0, none] C := by
  rw [W, wpN_eq _ _ _ _ _ _ _ _ ⟨1, 2, b_read_value⟩ rfl rfl]; rfl
theorem W_may_useC (n : Nat) (x0 x1 x2 : D) (C : CH) (Q : Kv) (E : Kx) : W (n + 1) i_may_useC [x0, x1, x2] C Q E = rdSs (GG n) (exN E) b_may_useC (endN Q) [some x0, some x1, some x2] C := by
  rw [W, wpN_eq _ _ _ _ _ _ _ _ ⟨3, 3, b_may_useC⟩ rfl rfl]; rfl
theorem W_may_call (n : Nat) (x0 x1 x2 : D) (C : CH) (Q : Kv) (E : Kx) : W (n + 1) i_may_call [x0, x1, x2] C Q E = rdSs (GG n) (exN E) b_may_call (endN Q) [some x0, some x1, some x2, none] C := by
  rw [W, wpN_eq _ _ _ _ _ _ _ _ ⟨3, 4, b_may_call⟩ rfl rfl]; rfl
theorem W_is_shaped (n : Nat) (x0 : D) (C : CH) (Q : Kv) (E : Kx) : W (n + 1) i_is_shaped [x0] C Q E = rdSs (GG n) (exN E) b_is_shaped (endN Q) [some x0] C := by
  rw [W, wpN_eq _ _ _ _ _ _ _ _ ⟨1, 1, b_is_shaped⟩ rfl rfl]; rfl
theorem W_is_condition (n : Nat) (x0 x1 x2 : D) (C : CH) (Q : Kv) (E : Kx) : W (n + 1) i_is_condition [x0, x1, x2] C Q E = rdSs (GG n) (exN E) b_is_condition (endN Q) [some x0, some x1, some x2, none, none, none, none, none, none, none] C := by
  rw [W, wpN_eq _ _ _ _ _ _ _ _ ⟨3, 10, b_is_condition⟩ rfl rfl]; rfl
theorem W_value_of (n : Nat) (x0 : D) (C : CH) (Q : Kv) (E : Kx) : W (n + 1) i_value_of [x0] C Q E = rdSs (GG n) (exN E) b_value_of (endN Q) [some x0, none] C := by
  rw [W, wpN_eq _ _ _ _ _ _ _ _ ⟨1, 2, b_value_of⟩ rfl rfl]; rfl
theorem W_term_of (n : Nat) (x0 : D) (C : CH) (Q : Kv) (E : Kx) : W (n + 1) i_term_of [x0] C Q E = rdSs (GG n) (exN E) b_term_of (endN Q) [some x0, none] C := by
  rw [W, wpN_eq _ _ _ _ _ _ _ _ ⟨1, 2, b_term_of⟩ rfl rfl]; rfl
theorem W_pieces_of (n : Nat) (x0 x1 : D) (C : CH) (Q : Kv) (E : Kx) : W (n + 1) i_pieces_of [x0, x1] C Q E = rdSs (GG n) (exN E) b_pieces_of (endN Q) [some x0, some x1, none, none, none, none] C := by
  rw [W, wpN_eq _ _ _ _ _ _ _ _ ⟨2, 6, b_pieces_of⟩ rfl rfl]; rfl
theorem W_combined (n : Nat) (x0 x1 : D) (C : CH) (Q : Kv) (E : Kx) : W (n + 1) i_combined [x0, x1] C Q E = rdSs (GG n) (exN E) b_combined (endN Q) [some x0, some x1] C := by
  rw [W, wpN_eq _ _ _ _ _ _ _ _ ⟨2, 2, b_combined⟩ rfl rfl]; rfl
theorem W_condition_of (n : Nat) (x0 x1 : D) (C : CH) (Q : Kv) (E : Kx) : W (n + 1) i_condition_of [x0, x1] C Q E = rdSs (GG n) (exN E) b_condition_of (endN Q) [some x0, some x1, none] C := by
  rw [W, wpN_eq _ _ _ _ _ _ _ _ ⟨2, 3, b_condition_of⟩ rfl rfl]; rfl
theorem W_conjunction_of (n : Nat) (x0 x1 : D) (C : CH) (Q : Kv) (E : Kx) : W (n + 1) i_conjunction_of [x0, x1] C Q E = rdSs (GG n) (exN E) b_conjunction_of (endN Q) [some x0, some x1, none] C := by
  rw [W, wpN_eq _ _ _ _ _ _ _ _ ⟨2, 3, b_conjunction_of⟩ rfl rfl]; rfl
theorem W_unit_of (n : Nat) (x0 x1 : D) (C : CH) (Q : Kv) (E : Kx) : W (n + 1) i_unit_of [x0, x1] C Q E = rdSs (GG n) (exN E) b_unit_of (endN Q) [some x0, some x1, none, none, none] C := by
  rw [W, wpN_eq _ _ _ _ _ _ _ _ ⟨2, 5, b_unit_of⟩ rfl rfl]; rfl
theorem W_search_of (n : Nat) (x0 x1 x2 : D) (C : CH) (Q : Kv) (E : Kx) : W (n + 1) i_search_of [x0, x1, x2] C Q E = rdSs (GG n) (exN E) b_search_of (endN Q) [some x0, some x1, some x2, none] C := by
  rw [W, wpN_eq _ _ _ _ _ _ _ _ ⟨3, 4, b_search_of⟩ rfl rfl]; rfl
theorem W_part_words (n : Nat) (x0 x1 : D) (C : CH) (Q : Kv) (E : Kx) : W (n + 1) i_part_words [x0, x1] C Q E = rdSs (GG n) (exN E) b_part_words (endN Q) [some x0, some x1, none] C := by
  rw [W, wpN_eq _ _ _ _ _ _ _ _ ⟨2, 3, b_part_words⟩ rfl rfl]; rfl
theorem W_condition_words (n : Nat) (x0 : D) (C : CH) (Q : Kv) (E : Kx) : W (n + 1) i_condition_words [x0] C Q E = rdSs (GG n) (exN E) b_condition_words (endN Q) [some x0, none, none] C := by
  rw [W, wpN_eq _ _ _ _ _ _ _ _ ⟨1, 3, b_condition_words⟩ rfl rfl]; rfl
theorem W_need_read (n : Nat) (x0 : D) (C : CH) (Q : Kv) (E : Kx) : W (n + 1) i_need_read [x0] C Q E = rdSs (GG n) (exN E) b_need_read (endN Q) [some x0] C := by
  rw [W, wpN_eq _ _ _ _ _ _ _ _ ⟨1, 1, b_need_read⟩ rfl rfl]; rfl
theorem W_stands_somewhere (n : Nat) (x0 : D) (C : CH) (Q : Kv) (E : Kx) : W (n + 1) i_stands_somewhere [x0] C Q E = rdSs (GG n) (exN E) b_stands_somewhere (endN Q) [some x0, none] C := by
  rw [W, wpN_eq _ _ _ _ _ _ _ _ ⟨1, 2, b_stands_somewhere⟩ rfl rfl]; rfl
theorem W_condition_text (n : Nat) (x0 : D) (C : CH) (Q : Kv) (E : Kx) : W (n + 1) i_condition_text [x0] C Q E = rdSs (GG n) (exN E) b_condition_text (endN Q) [some x0] C := by
  rw [W, wpN_eq _ _ _ _ _ _ _ _ ⟨1, 1, b_condition_text⟩ rfl rfl]; rfl
theorem W_read_condition (n : Nat) (x0 : D) (C : CH) (Q : Kv) (E : Kx) : W (n + 1) i_read_condition [x0] C Q E = rdSs (GG n) (exN E) b_read_condition (endN Q) [some x0, none] C := by
  rw [W, wpN_eq _ _ _ _ _ _ _ _ ⟨1, 2, b_read_condition⟩ rfl rfl]; rfl
theorem W__law_begin (n : Nat) (x0 : D) (C : CH) (Q : Kv) (E : Kx) : W (n + 1) i__law_begin [x0] C Q E = rdSs (GG n) (exN E) b__law_begin (endN Q) [some x0, none, none] C := by
  rw [W, wpN_eq _ _ _ _ _ _ _ _ ⟨1, 3, b__law_begin⟩ rfl rfl]; rfl
theorem W__law_draw (n : Nat) (x0 x1 : D) (C : CH) (Q : Kv) (E : Kx) : W (n + 1) i__law_draw [x0, x1] C Q E = rdSs (GG n) (exN E) b__law_draw (endN Q) [some x0, some x1, none, none, none, none] C := by
  rw [W, wpN_eq _ _ _ _ _ _ _ _ ⟨2, 6, b__law_draw⟩ rfl rfl]; rfl
theorem W__law_pick (n : Nat) (x0 x1 : D) (C : CH) (Q : Kv) (E : Kx) : W (n + 1) i__law_pick [x0, x1] C Q E = rdSs (GG n) (exN E) b__law_pick (endN Q) [some x0, some x1] C := by
  rw [W, wpN_eq _ _ _ _ _ _ _ _ ⟨2, 2, b__law_pick⟩ rfl rfl]; rfl
theorem W__law_name (n : Nat) (x0 : D) (C : CH) (Q : Kv) (E : Kx) : W (n + 1) i__law_name [x0] C Q E = rdSs (GG n) (exN E) b__law_name (endN Q) [some x0, none, none, none, none] C := by
  rw [W, wpN_eq _ _ _ _ _ _ _ _ ⟨1, 5, b__law_name⟩ rfl rfl]; rfl
theorem W__law_height (n : Nat) (x0 : D) (C : CH) (Q : Kv) (E : Kx) : W (n + 1) i__law_height [x0] C Q E = rdSs (GG n) (exN E) b__law_height (endN Q) [some x0, none] C := by
  rw [W, wpN_eq _ _ _ _ _ _ _ _ ⟨1, 2, b__law_height⟩ rfl rfl]; rfl
theorem W__law_value (n : Nat) (x0 x1 x2 : D) (C : CH) (Q : Kv) (E : Kx) : W (n + 1) i__law_value [x0, x1, x2] C Q E = rdSs (GG n) (exN E) b__law_value (endN Q) [some x0, some x1, some x2] C := by
  rw [W, wpN_eq _ _ _ _ _ _ _ _ ⟨3, 3, b__law_value⟩ rfl rfl]; rfl
theorem W__law_term (n : Nat) (x0 x1 x2 x3 : D) (C : CH) (Q : Kv) (E : Kx) : W (n + 1) i__law_term [x0, x1, x2, x3] C Q E = rdSs (GG n) (exN E) b__law_term (endN Q) [some x0, some x1, some x2, some x3, none, none, none, none] C := by
  rw [W, wpN_eq _ _ _ _ _ _ _ _ ⟨4, 8, b__law_term⟩ rfl rfl]; rfl
theorem W__law_condition (n : Nat) (x0 x1 x2 x3 x4 : D) (C : CH) (Q : Kv) (E : Kx) : W (n + 1) i__law_condition [x0, x1, x2, x3, x4] C Q E = rdSs (GG n) (exN E) b__law_condition (endN Q) [some x0, some x1, some x2, some x3, some x4, none, none, none, none, none] C := by
  rw [W, wpN_eq _ _ _ _ _ _ _ _ ⟨5, 10, b__law_condition⟩ rfl rfl]; rfl
theorem W__law_value_text (n : Nat) (x0 : D) (C : CH) (Q : Kv) (E : Kx) : W (n + 1) i__law_value_text [x0] C Q E = rdSs (GG n) (exN E) b__law_value_text (endN Q) [some x0, none] C := by
  rw [W, wpN_eq _ _ _ _ _ _ _ _ ⟨1, 2, b__law_value_text⟩ rfl rfl]; rfl
theorem W__law_condition_text (n : Nat) (x0 : D) (C : CH) (Q : Kv) (E : Kx) : W (n + 1) i__law_condition_text [x0] C Q E = rdSs (GG n) (exN E) b__law_condition_text (endN Q) [some x0, none, none, none, none, none] C := by
  rw [W, wpN_eq _ _ _ _ _ _ _ _ ⟨1, 6, b__law_condition_text⟩ rfl rfl]; rfl
theorem W__law_right (n : Nat) (x0 : D) (C : CH) (Q : Kv) (E : Kx) : W (n + 1) i__law_right [x0] C Q E = rdSs (GG n) (exN E) b__law_right (endN Q) [some x0, none, none] C := by
  rw [W, wpN_eq _ _ _ _ _ _ _ _ ⟨1, 3, b__law_right⟩ rfl rfl]; rfl
theorem W_law (n : Nat) (x0 : D) (C : CH) (Q : Kv) (E : Kx) : W (n + 1) i_law [x0] C Q E = rdSs (GG n) (exN E) b_law (endN Q) [some x0, none, none, none, none, none, none] C := by
  rw [W, wpN_eq _ _ _ _ _ _ _ _ ⟨1, 7, b_law⟩ rfl rfl]; rfl
noncomputable abbrev GA (n : Nat) (act : SemA) : G3 := gA prog kit.get n act
theorem GA_call (n f : Nat) (act : SemA) : (GA n act).call f = W n f := rfl
theorem GA_act (n : Nat) (act : SemA) : (GA n act).act = act := rfl
theorem GG_dn (n : Nat) : (GG (n + 3)).dn = GA (n + 1) act0 := rfl
theorem L__law_told (n : Nat) (act : SemA) (x0 : D) (C : CH) (Q : Kv) (E : Kx) : (GG (n + 3)).lam i__law_told act [x0] C Q E = rdSs (GA (n + 1) act) (exN E) b__law_told (endN Q) [some x0, none, none, none, none] C := by
  rw [wpL_eq _ _ _ _ _ _ _ _ _ ⟨1, 5, b__law_told⟩ rfl rfl]; rfl
end My
namespace My
open PySem L3
local macro_rules | `(tactic| simp_arith [$t,*]) => `(tactic| simp only [rdSs_nil, rdS, rdE, rdT, rdA, rdLs, rdIfs, rdO, sNext, sRet, sRetN, sIf, sDrop, sAsg, sPar, sPar3, sSet, sBreak, sCont, sRaise, cAndV, cOrV, cNotV, cAnd, cOr, cNot, cTst, cTsN, tstD, cIf, cUn, cBin, cList, cNil, cCons, cVar, cC, cChain, cMt, cSl, cPart, cNoPart, cCall, cArgs, endN, exN, semB, semC, semBI, semMI, semIK, tyMI, hT, bindT, setAll, L3.CT.slots, oIsi, oNeg, oAddA_int, oAddA_str, oAddA_tup, oI2_int, oMulA_int, oMulA_tup, oMulA_str, oIxA_tup, oIxA_rls, oIxA_str, oSl_tup, oSl_str, oEqN_int, oEqN_bl, oInF_str2, atI_zero, atI_one, atI_two, oLen, oInt, oAbs, oIs, isNon, oTup, oInS, gath, L3.Src.get, Option.map, List.getD_cons_zero, List.getD_cons_succ, SqC_tup, SqC_rls, SqC_ref, SqC_str, SqC_int, LsC_iff, tyC_non, tyC_bl, tyC_int, tyC_str, tyC_tup, cup_same, List.getElem?_cons_zero, List.getElem?_cons_succ, List.set_cons_zero, List.set_cons_succ, List.length_cons, List.length_nil, List.map_cons, List.map_nil, List.zip_cons_cons, Option.some.injEq, L3.D.bl.injEq, L3.D.int.injEq, L3.D.str.injEq, L3.D.tup.injEq, L3.D.rls.injEq, L3.D.ref.injEq, List.cons.injEq, L3.CO.lst.injEq, L3.CO.dic.injEq, reduceCtorEq, exists_eq_left, exists_eq_left', exists_eq, exists_eq', and_true, true_and, and_false, false_and, or_false, false_or, or_true, true_or, exists_false, exists_const, ite_true, ite_false, if_true, if_false, Bool.not_true, Bool.not_false, Bool.true_eq_false, Bool.false_eq_true, id_eq, eq_self, eq_self_iff_true, and_self, or_self, exists_and_left, exists_and_right, Nat.zero_add, Nat.add_eq, forall_const, sl_lt0, sl_le0, sl_lt1, sl_le1, sl_lt2, sl_le2, sl_lt3, sl_le3, sl_lt4, sl_le4, sl_lt5, sl_le5, sl_lt6, sl_le6, sl_lt7, sl_le7, sl_lt8, sl_le8, sl_lt9, sl_le9, sl_lt10, sl_le10, sl_lt11, sl_le11, sl_lt12, sl_le12, Nat.reduceAdd, Nat.reduceLeDiff, Int.reduceLE, Int.reduceLT, Int.cast_ofNat_Int, decide_true, decide_false, k_NoneType_int, k_bool_int, k_int_int, k_str_int, k_tuple_int, k_list_int, k_dict_int, k_NoneType_bool, k_bool_bool, k_int_bool, k_str_bool, k_tuple_bool, k_list_bool, k_dict_bool, k_NoneType_str, k_bool_str, k_int_str, k_str_str, k_tuple_str, k_list_str, k_dict_str, k_NoneType_tuple, k_bool_tuple, k_int_tuple, k_str_tuple, k_tuple_tuple, k_list_tuple, k_dict_tuple, k_NoneType_list, k_bool_list, k_int_list, k_str_list, k_tuple_list, k_list_list, k_dict_list, $t,*])
local macro_rules | `(tactic| simp_arith! [$t,*]) => `(tactic| simp only [rdSs, rdS, rdE, rdT, rdA, rdLs, rdIfs, rdO, sSeq, sNext, sRet, sRetN, sIf, sDrop, sAsg, sPar, sPar3, sSet, sBreak, sCont, sRaise, cAndV, cOrV, cNotV, cAnd, cOr, cNot, cTst, cTsN, tstD, cIf, cUn, cBin, cList, cNil, cCons, cVar, cC, cChain, cMt, cSl, cPart, cNoPart, cCall, cArgs, gN, endN, exN, semB, semC, semBI, semMI, semIK, tyMI, hT, bindT, setAll, L3.CT.slots, oIsi, oNeg, oAddA_int, oAddA_str, oAddA_tup, oI2_int, oMulA_int, oMulA_tup, oMulA_str, oIxA_tup, oIxA_rls, oIxA_str, oSl_tup, oSl_str, oEqN_int, oEqN_bl, oInF_str2, atI_zero, atI_one, atI_two, oLen, oInt, oAbs, oIs, isNon, oTup, oInS, gath, L3.Src.get, Option.map, List.getD_cons_zero, List.getD_cons_succ, SqC_tup, SqC_rls, SqC_ref, SqC_str, SqC_int, LsC_iff, tyC_non, tyC_bl, tyC_int, tyC_str, tyC_tup, cup_same, List.getElem?_cons_zero, List.getElem?_cons_succ, List.set_cons_zero, List.set_cons_succ, List.length_cons, List.length_nil, List.map_cons, List.map_nil, List.zip_cons_cons, Option.some.injEq, L3.D.bl.injEq, L3.D.int.injEq, L3.D.str.injEq, L3.D.tup.injEq, L3.D.rls.injEq, L3.D.ref.injEq, List.cons.injEq, L3.CO.lst.injEq, L3.CO.dic.injEq, reduceCtorEq, exists_eq_left, exists_eq_left', exists_eq, exists_eq', and_true, true_and, and_false, false_and, or_false, false_or, or_true, true_or, exists_false, exists_const, ite_true, ite_false, if_true, if_false, Bool.not_true, Bool.not_false, Bool.true_eq_false, Bool.false_eq_true, id_eq, eq_self, eq_self_iff_true, and_self, or_self, exists_and_left, exists_and_right, Nat.zero_add, Nat.add_eq, forall_const, sl_lt0, sl_le0, sl_lt1, sl_le1, sl_lt2, sl_le2, sl_lt3, sl_le3, sl_lt4, sl_le4, sl_lt5, sl_le5, sl_lt6, sl_le6, sl_lt7, sl_le7, sl_lt8, sl_le8, sl_lt9, sl_le9, sl_lt10, sl_le10, sl_lt11, sl_le11, sl_lt12, sl_le12, Nat.reduceAdd, Nat.reduceLeDiff, Int.reduceLE, Int.reduceLT, Int.cast_ofNat_Int, decide_true, decide_false, k_NoneType_int, k_bool_int, k_int_int, k_str_int, k_tuple_int, k_list_int, k_dict_int, k_NoneType_bool, k_bool_bool, k_int_bool, k_str_bool, k_tuple_bool, k_list_bool, k_dict_bool, k_NoneType_str, k_bool_str, k_int_str, k_str_str, k_tuple_str, k_list_str, k_dict_str, k_NoneType_tuple, k_bool_tuple, k_int_tuple, k_str_tuple, k_tuple_tuple, k_list_tuple, k_dict_tuple, k_NoneType_list, k_bool_list, k_int_list, k_str_list, k_tuple_list, k_list_list, k_dict_list, $t,*])
noncomputable def isNum : T → Bool
  | .int _ => true
  | _ => false
theorem is_number_ok {n : Nat} {t : T} {C : CH} {Q : Kv} {E : Kx} (hq : Q (.bl (isNum t)) C) : W (n+1) i_is_number [t.d] C Q E := by
  rw [W_is_number]
  unfold b_is_number
  cases t <;> simp_arith! [T.d, GG_kit] <;> exact ⟨C, Sub.refl, hq⟩
theorem is_number_ref {n : Nat} {p : Addr} {xs : List D} {C : CH} {Q : Kv} {E : Kx} (h : C p = some (.lst xs)) (hq : Q (.bl false) C) : W (n+1) i_is_number [.ref p] C Q E := by
  rw [W_is_number]
  unfold b_is_number
  simp_arith! [GG_kit, tyC_lst h]
  exact ⟨C, Sub.refl, hq⟩
noncomputable def LET : Str := "abcdefghijklmnopqrstuvwxyz"
noncomputable def SIG : Str := "abcdefghijklmnopqrstuvwxyz0123456789"
noncomputable def isNm (z : Str) : Bool := match z.cps.toList with
  | [] => false
  | c :: r => decide (z.length ≤ 8) && (decide (c ∈ LET.cps.toList) && (c :: r).all fun c => decide (c ∈ SIG.cps.toList))
noncomputable def isName : T → Bool
  | .str z => isNm z
  | _ => false
theorem is_name_ok {n : Nat} {t : T} {C : CH} {Q : Kv} {E : Kx} (hq : Q (.bl (isName t)) C) (hz : ∀ z, t = .str z → z.length ≤ sizeLine) : W (n+1) i_is_name [t.d] C Q E := by
  rw [W_is_name]
  unfold b_is_name
  cases t with
  | str z =>
    simp_arith! [T.d, GG_kit]
    refine ⟨hz z rfl, ?_⟩
    have hn := len_cps z
    replace hq : Q (.bl (isNm z)) C := hq
    unfold isNm at hq
    cases hz' : z.cps.toList with
    | nil =>
      rw [hz'] at hn hq
      simp only [hn, List.length_nil]
      exact ⟨C, Sub.refl, hq⟩
    | cons c r =>
      rw [hz'] at hq
      have h1 : (1 : Int) ≤ (z.length : Int) := by rw [hn, hz', List.length_cons]; omega
      rw [if_pos (decide_eq_true h1)]
      by_cases h8 : z.length ≤ 8
      · have h8' : ((z.length : Nat) : Int) ≤ 8 := by omega
        rw [if_neg (by simp [h8'])]
        refine ⟨hz z rfl, c, atI_zero, c, rfl, ?_⟩
        by_cases hc : c ∈ LET.cps.toList
        · have hc' : c ∈ (Str.ofString "abcdefghijklmnopqrstuvwxyz").cps.toList := hc
          rw [if_neg (by simp [hc'])]
          refine ⟨_, rfl, z, rfl, ?_⟩
          refine lcL_map (fun d => match d with | .str y => .bl (decide (y.cps.toList.head?.getD 0 ∈ SIG.cps.toList)) | _ => .non) trivial _ [] (fun d hd => ?_) ?_ ?_
          · obtain ⟨a, ha, rfl⟩ := List.mem_map.mp hd
            refine ⟨_, rfl, fun Q' hQ => ?_⟩
            simp_arith! [wipe3]
            exact ⟨a, rfl, by simpa [SIG] using hQ⟩
          · rw [List.length_map, ← len_cps]; simp only [List.length_nil]; have := hz z rfl; omega
          · intro p hp
            rw [List.nil_append, List.map_map]
            refine oAll_new (bs := z.cps.toList.map fun c => decide (c ∈ SIG.cps.toList)) (by rw [List.map_map]; rfl) ⟨C, sub_new hp, ?_⟩
            rw [hz']
            simpa [h8, hc, List.all_map, Function.comp_def] using hq
        · have hc' : ¬ c ∈ (Str.ofString "abcdefghijklmnopqrstuvwxyz").cps.toList := hc
          rw [if_pos (by simp [hc'])]
          refine ⟨C, Sub.refl, ?_⟩
          simpa [hc] using hq
      · have h8' : ¬ ((z.length : Nat) : Int) ≤ 8 := by omega
        rw [if_pos (by simp [h8'])]
        refine ⟨C, Sub.refl, ?_⟩
        simpa [h8] using hq
  | _ => simp_arith! [T.d, GG_kit] <;> exact ⟨C, Sub.refl, hq⟩
/-- the height and the greatest level of a value -/
noncomputable def both2 (x y : Option (Int × Int)) : Option (Int × Int) := match x, y with
  | some a, some b => some (1 + (if b.1 > a.1 then b.1 else a.1), if b.2 > a.2 then b.2 else a.2)
  | _, _ => none
noncomputable def meas : Nat → T → Option (Int × Int)
  | _, .int i => if 1 ≤ i ∧ i ≤ 3 then some (0, i) else none
  | r + 1, .tup [h, a] => if isName h = true then (meas r a).map fun q => (1 + q.1, q.2) else none
  | r + 1, .tup [h, a, b] => if isName h = true then both2 (meas r a) (meas r b) else none
  | _, _ => none
noncomputable def measD : Option (Int × Int) → D
  | none => .non
  | some q => .tup [.int q.1, .int q.2]
mutual
noncomputable def okT : T → Bool
  | .str z => decide (z.length ≤ sizeLine) && PyData.strOk z
  | .tup xs => okTs xs
  | _ => true
noncomputable def okTs : List T → Bool
  | [] => true
  | x :: xs => okT x && okTs xs
end
/-- one item of «None in parts» -/
noncomputable def measP : Option (Int × Int) → PyData
  | none => .none
  | some q => .tuple [.int q.1, .int q.2]
theorem measSnap (C : CH) : ∀ m, Snap C (measD m) (measP m)
  | none => .non
  | some q => .tup (.cons (.int _) (.cons (.int _) .nil))
theorem noneIn1 {C : CH} {p : Addr} {m : Option (Int × Int)} {Q : Kv} (h : C p = some (.lst [measD m])) (q : Q (.bl m.isNone) C) : oInD id .non (.ref p) C Q :=
  ⟨p, .none, _, [measP m], rfl, h, .non, .cons (measSnap C m) .nil, rfl, by cases m <;> rfl, by cases m <;> exact q⟩
theorem noneIn2 {C : CH} {p : Addr} {m k : Option (Int × Int)} {Q : Kv} (h : C p = some (.lst [measD m, measD k])) (q : Q (.bl (m.isNone || k.isNone)) C) : oInD id .non (.ref p) C Q :=
  ⟨p, .none, _, [measP m, measP k], rfl, h, .non, .cons (measSnap C m) (.cons (measSnap C k) .nil), rfl, by cases m <;> cases k <;> rfl, by cases m <;> cases k <;> exact q⟩
theorem ok_len {z : Str} (h : okT (.str z) = true) : z.length ≤ sizeLine := by
  simp only [okT, Bool.and_eq_true, decide_eq_true_eq] at h
  exact h.1
theorem measured_ok : ∀ (r n : Nat) (t : T) (C : CH) (Q : Kv) (E : Kx), okT t = true → Q (measD (meas r t)) C → W (n + r + 2) i_measured [t.d, .int r] C Q E := by
  intro r
  induction r with
  | zero =>
    intro n t C Q E ho hq
    rw [W_measured]
    unfold b_measured
    rw [rdSs_cons]
    simp_arith [GG_call]
    refine is_number_ok ?_
    cases t with
    | int i =>
      simp_arith [isNum]
      rw [rdSs_cons]
      simp_arith [T.d]
      by_cases h1 : 1 ≤ i <;> by_cases h3 : i ≤ 3 <;> simp only [h1, h3, decide_true, decide_false, if_true, Bool.false_eq_true, if_false] <;> simp only [meas, h1, h3, measD, and_self, and_true, and_false, if_true, if_false] at hq
      · exact ⟨C, Sub.refl, hq⟩
      all_goals exact ⟨C, Sub.refl, hq⟩
    | _ =>
      simp_arith [isNum]
      rw [rdSs_cons]
      simp_arith []
      rw [rdSs_cons]
      simp_arith []
      simp only [meas, measD] at hq
      exact ⟨C, Sub.refl, hq⟩
  | succ r ih =>
    intro n t C Q E ho hq
    rw [W_measured]
    unfold b_measured
    rw [rdSs_cons]
    simp_arith [GG_call]
    refine is_number_ok ?_
    have hr : (((r + 1 : Nat) : Int) = 0) = False := by simp; omega
    have e1 : ((r + 1 : Nat) : Int) - 1 = r := by omega
    cases t with
    | int i =>
      simp_arith [isNum]
      rw [rdSs_cons]
      simp_arith [T.d]
      by_cases h1 : 1 ≤ i <;> by_cases h3 : i ≤ 3 <;> simp only [h1, h3, decide_true, decide_false, if_true, Bool.false_eq_true, if_false] <;> simp only [meas, h1, h3, measD, and_self, and_true, and_false, if_true, if_false] at hq
      · exact ⟨C, Sub.refl, hq⟩
      all_goals exact ⟨C, Sub.refl, hq⟩
    | tup xs =>
      simp_arith [isNum]
      rw [rdSs_cons]
      simp_arith [T.d, GG_kit, GG_call, hr, decide_false, T.ds_length]
      match xs, ho, hq with
      | [], ho, hq =>
        rw [if_neg (by decide), rdSs_cons]
        simp_arith []
        exact ⟨C, Sub.refl, hq⟩
      | [_], ho, hq =>
        rw [if_neg (by simp), rdSs_cons]
        simp_arith []
        exact ⟨C, Sub.refl, hq⟩
      | _ :: _ :: _ :: _ :: l, ho, hq =>
        rw [if_pos (by simp; omega), if_pos (by simp; omega), rdSs_cons]
        simp_arith []
        exact ⟨C, Sub.refl, hq⟩
      | [h, a], ho, hq =>
        simp_arith [T.ds]
        simp only [okT, okTs, Bool.and_true, Bool.and_eq_true] at ho
        refine is_name_ok ?_ (fun z e => by rw [e] at ho; exact ok_len ho.1)
        simp only [meas] at hq
        by_cases hn : isName h = true
        · rw [if_pos hn] at hq
          simp_arith [hn]
          rw [rdSs_cons]
          simp_arith [cLc, iSeq, lcL, wipe3, cutD_tail, cYes, GG_call, e1]
          refine ih n a C _ _ ho.2 ?_
          intro p hp
          rw [rdSs_cons]
          simp_arith []
          refine noneIn1 cup_same ?_
          cases hm : meas r a with
          | none =>
            rw [hm] at hq
            simp_arith [Option.isNone]
            rw [rdSs_cons]
            simp_arith []
            exact ⟨C, sub_new hp, hq⟩
          | some q =>
            rw [hm] at hq
            simp_arith [Option.isNone]
            rw [rdSs_cons]
            simp_arith [cLc, iSeq, lcL, wipe3, cYes, List.nil_append, measD]
            intro p1 hp1
            refine oMaxL1 cup_same ?_
            simp_arith [cup_old hp1 cup_same, cLc, iSeq, lcL, wipe3, cYes, List.nil_append]
            intro p2 hp2
            refine oMaxL1 cup_same ?_
            exact ⟨C, ((sub_new hp).trans (sub_new hp1)).trans (sub_new hp2), hq⟩
        · rw [if_neg hn] at hq
          simp_arith [hn]
          rw [rdSs_cons]
          simp_arith []
          exact ⟨C, Sub.refl, hq⟩
      | [h, a, b], ho, hq =>
        simp_arith [T.ds]
        simp only [okT, okTs, Bool.and_true, Bool.and_eq_true] at ho
        refine is_name_ok ?_ (fun z e => by rw [e] at ho; exact ok_len ho.1)
        simp only [meas] at hq
        by_cases hn : isName h = true
        · rw [if_pos hn] at hq
          simp_arith [hn]
          rw [rdSs_cons]
          simp_arith [cLc, iSeq, lcL, wipe3, cutD_tail, cYes, GG_call, e1, List.nil_append, List.cons_append]
          refine ih n a C _ _ ho.2.1 ?_
          refine ih n b C _ _ ho.2.2 ?_
          intro p hp
          rw [rdSs_cons]
          simp_arith []
          refine noneIn2 cup_same ?_
          cases hm : meas r a with
          | none =>
            rw [hm] at hq
            simp_arith [Option.isNone, Bool.true_or]
            rw [rdSs_cons]
            simp_arith []
            exact ⟨C, sub_new hp, hq⟩
          | some q =>
            cases hk : meas r b with
            | none =>
              rw [hm, hk] at hq
              simp_arith [Option.isNone, Bool.or_true]
              rw [rdSs_cons]
              simp_arith []
              exact ⟨C, sub_new hp, hq⟩
            | some k =>
              rw [hm, hk] at hq
              simp_arith [Option.isNone, Bool.or_self]
              rw [rdSs_cons]
              simp_arith [cLc, iSeq, lcL, wipe3, cYes, List.nil_append, List.cons_append, measD]
              intro p1 hp1
              refine oMaxL2 cup_same ?_
              simp_arith [cup_old hp1 cup_same, cLc, iSeq, lcL, wipe3, cYes, List.nil_append, List.cons_append]
              intro p2 hp2
              refine oMaxL2 cup_same ?_
              exact ⟨C, ((sub_new hp).trans (sub_new hp1)).trans (sub_new hp2), hq⟩
        · rw [if_neg hn] at hq
          simp_arith [hn]
          rw [rdSs_cons]
          simp_arith []
          exact ⟨C, Sub.refl, hq⟩
    | _ => simp_arith [isNum]; rw [rdSs_cons]; simp_arith [T.d, GG_kit, hr, decide_false]; rw [rdSs_cons]; simp_arith []; exact ⟨C, Sub.refl, hq⟩
theorem joinL_nil : ∀ cs : List Nat, TL.joinL [] (cs.map fun c => [c]) = cs
  | [] => rfl
  | [c] => rfl
  | c :: d :: r => by
    show [c] ++ ([] ++ TL.joinL [] ((d :: r).map fun c => [c])) = _
    rw [joinL_nil (d :: r)]
    rfl
theorem join_chars (cs : List Nat) : (Txt.join (Str.ofString "") (cs.map fun c => (⟨#[c]⟩ : Str))).cps.toList = cs := by
  rw [TL.join_eq]
  have := TL.tl_join (Str.ofString "") (cs.map fun c => (⟨#[c]⟩ : Str))
  rw [List.map_map] at this
  exact this.trans (joinL_nil cs)
noncomputable def goodNm (z : Str) : Prop := isNm z = true ∧ z.length ≤ 8 ∧ PyData.strOk z = true
theorem let_sig : ∀ c ∈ LET.cps.toList, c ∈ SIG.cps.toList := by decide +kernel
theorem sig_small : ∀ c ∈ SIG.cps.toList, c < 1114112 := by decide +kernel
theorem good_chars {z : Str} {c : Nat} {cs : List Nat} (h : z.cps.toList = c :: cs) (hc : c ∈ LET.cps.toList) (hs : ∀ x ∈ cs, x ∈ SIG.cps.toList) (hl : cs.length ≤ 7) : goodNm z := by
  have hz : z.length = cs.length + 1 := by rw [len_cps, h]; rfl
  refine ⟨?_, by omega, ?_⟩
  · unfold isNm
    rw [h]
    simp only [Bool.and_eq_true, decide_eq_true_eq, List.all_eq_true]
    refine ⟨by omega, hc, fun x hx => ?_⟩
    rcases List.mem_cons.mp hx with e | hx
    · rw [e]; exact let_sig _ hc
    · exact hs x hx
  · show z.cps.all (· < 0x110000) = true
    rw [← Array.all_toList, h, List.all_eq_true]
    intro x hx
    rcases List.mem_cons.mp hx with e | hx
    · rw [e]; exact decide_eq_true (sig_small _ (let_sig _ hc))
    · exact decide_eq_true (sig_small _ (hs x hx))
noncomputable def numOf : T → Int
  | .int i => i
  | _ => 0
/-- what has been called: all terms with items up to a level, or the terms of a list -/
inductive Kn where
  | num (k : Int) | lst (vs : List T)
instance : Coe Int Kn := ⟨Kn.num⟩
noncomputable def inT (v : T) (vs : List T) : Bool := (T.pl vs).any fun z => PyData.eqv z v.p
noncomputable def Kn.may (q : Int) (v : T) : Kn → Bool
  | .num k => decide (q ≤ k)
  | .lst vs => inT v vs
/-- the value that stands for it -/
inductive KnAt (C : CH) : Kn → D → Prop
  | num (k : Int) : KnAt C (.num k) (.int k)
  | lst {p : Addr} {vs : List T} : C p = some (.lst (T.ds vs)) → (∀ t ∈ vs, okT t = true ∧ t.p.depth ≤ 60) → KnAt C (.lst vs) (.ref p)
theorem KnAt.sub {C C' : CH} {k : Kn} {d : D} (h : KnAt C k d) (s : Sub C C') : KnAt C' k d := by
  cases h with
  | num k => exact .num k
  | lst h h2 => exact .lst (s _ _ h) h2
noncomputable def mayUse (v : T) (level : Int) (called : Kn) : Bool := match meas 4 v with
  | none => false
  | some q => if isNum v = true then decide (numOf v ≤ level) else called.may q.2 v
theorem meas_depth : ∀ (r : Nat) (v : T) (q : Int × Int), meas r v = some q → v.p.depth ≤ r
  | r, .int i, q, _ => by simp [T.p, PyData.depth]
  | r + 1, .tup [h, a], q, e => by
    simp only [meas] at e
    split at e
    · rename_i hn
      obtain ⟨q', e', _⟩ := Option.map_eq_some_iff.mp e
      have := meas_depth r a q' e'
      cases h <;> first | (simp [isName] at hn; done) | (simp only [T.p, T.pl, PyData.depth, PyData.depthAll]; omega)
    · cases e
  | r + 1, .tup [h, a, b], q, e => by
    simp only [meas] at e
    split at e
    · rename_i hn
      cases ea : meas r a with
      | none => rw [ea] at e; simp [both2] at e
      | some qa =>
        cases eb : meas r b with
        | none => rw [ea, eb] at e; simp [both2] at e
        | some qb =>
          have := meas_depth r a qa ea
          have := meas_depth r b qb eb
          cases h <;> first | (simp [isName] at hn; done) | (simp only [T.p, T.pl, PyData.depth, PyData.depthAll]; omega)
    · cases e
  | 0, .tup _, _, e => by simp [meas] at e
  | _ + 1, .tup [], _, e => by simp [meas] at e
  | _ + 1, .tup [_], _, e => by simp [meas] at e
  | _ + 1, .tup (_ :: _ :: _ :: _ :: _), _, e => by simp [meas] at e
  | 0, .non, _, e => by simp [meas] at e
  | 0, .bl _, _, e => by simp [meas] at e
  | 0, .str _, _, e => by simp [meas] at e
  | _ + 1, .non, _, e => by simp [meas] at e
  | _ + 1, .bl _, _, e => by simp [meas] at e
  | _ + 1, .str _, _, e => by simp [meas] at e
mutual
theorem canLay_ok : ∀ t : T, okT t = true → t.p.canLay0 = true
  | .non, _ => rfl
  | .bl _, _ => rfl
  | .int _, _ => rfl
  | .str z, h => by
    simp only [okT, Bool.and_eq_true, decide_eq_true_eq] at h
    exact h.2
  | .tup xs, h => canLays_ok xs h
theorem canLays_ok : ∀ ts : List T, okTs ts = true → PyData.canLayAll0 (T.pl ts) = true
  | [], _ => rfl
  | t :: ts, h => by
    simp only [okTs, Bool.and_eq_true] at h
    simp only [T.pl, PyData.canLayAll0, Bool.and_eq_true]
    exact ⟨canLay_ok t h.1, canLays_ok ts h.2⟩
end
theorem depths_le {m : Nat} : ∀ {ts : List T}, (∀ t ∈ ts, okT t = true ∧ t.p.depth ≤ m) → PyData.canLayAll0 (T.pl ts) = true ∧ PyData.depthAll (T.pl ts) ≤ m
  | [], _ => ⟨rfl, Nat.zero_le _⟩
  | t :: ts, h => by
    obtain ⟨h1, h2⟩ := depths_le (ts := ts) fun x hx => h x (List.mem_cons_of_mem _ hx)
    obtain ⟨k1, k2⟩ := h t List.mem_cons_self
    constructor
    · simp only [T.pl, PyData.canLayAll0, Bool.and_eq_true]
      exact ⟨canLay_ok t k1, h1⟩
    · simp only [T.pl, PyData.depthAll]; omega
/-- value in called -/
theorem inD_ts {f : Bool → Bool} {C : CH} {p : Addr} {v : T} {vs : List T} {Q : Kv} (h : C p = some (.lst (T.ds vs))) (hv : ∀ t ∈ vs, okT t = true ∧ t.p.depth ≤ 60) (ho : okT v = true) (hd : v.p.depth ≤ 60) (q : Q (.bl (f (inT v vs))) C) : oInD f v.d (.ref p) C Q := by
  obtain ⟨h1, h2⟩ := depths_le hv
  refine ⟨p, v.p, _, T.pl vs, rfl, h, v.snap C, T.snaps C vs, ?_, ?_, q⟩
  · simp only [SeqAt.shaped, Bool.and_eq_true, decide_eq_true_eq]
    exact ⟨canLay_ok v ho, by omega⟩
  · simp only [SeqAt.shaped, Bool.and_eq_true, decide_eq_true_eq]
    exact ⟨h1, by show PyData.depthAll _ + 1 ≤ 64; omega⟩
theorem okTs_mem : ∀ {xs : List T} {x : T}, okTs xs = true → x ∈ xs → okT x = true
  | y :: ys, x, h, m => by
    simp only [okTs, Bool.and_eq_true] at h
    rcases List.mem_cons.mp m with e | m
    · rw [e]; exact h.1
    · exact okTs_mem h.2 m
mutual
noncomputable def size : T → Nat
  | .tup xs => 1 + sizes xs
  | _ => 1
noncomputable def sizes : List T → Nat
  | [] => 0
  | x :: xs => size x + sizes xs
end
inductive Vv where
  | item (i : Int) | app1 (z : Str) (a : Vv) | app2 (z : Str) (a b : Vv)
noncomputable def Vv.t : Vv → T
  | .item i => .int i
  | .app1 z a => .tup [.str z, a.t]
  | .app2 z a b => .tup [.str z, a.t, b.t]
noncomputable def Vv.h : Vv → Int
  | .item _ => 0
  | .app1 _ a => 1 + a.h
  | .app2 _ a b => 1 + (if b.h > a.h then b.h else a.h)
noncomputable def Vv.top : Vv → Int
  | .item i => i
  | .app1 _ a => a.top
  | .app2 _ a b => if b.top > a.top then b.top else a.top
noncomputable def Vv.good : Vv → Prop
  | .item i => 1 ≤ i
  | .app1 z a => goodNm z ∧ a.good
  | .app2 z a b => goodNm z ∧ a.good ∧ b.good
noncomputable def Vv.size : Vv → Nat
  | .item _ => 1
  | .app1 _ a => 1 + a.size
  | .app2 _ a b => 1 + a.size + b.size
theorem Vv.h_nonneg : ∀ v : Vv, 0 ≤ v.h
  | .item _ => Int.le_refl _
  | .app1 _ a => by have := a.h_nonneg; simp only [Vv.h]; omega
  | .app2 _ a b => by have := a.h_nonneg; have := b.h_nonneg; simp only [Vv.h]; split <;> omega
theorem meas_vv : ∀ (r : Nat) (v : Vv), v.good → v.h ≤ r → v.top ≤ 3 → meas r v.t = some (v.h, v.top)
  | r, .item i, g, hh, ht => by
    simp only [Vv.good, Vv.top] at g ht
    cases r <;> simp [Vv.t, meas, g, ht, Vv.h, Vv.top]
  | 0, .app1 z a, g, hh, ht => by have := a.h_nonneg; simp only [Vv.h] at hh; omega
  | 0, .app2 z a b, g, hh, ht => by have := a.h_nonneg; have := b.h_nonneg; simp only [Vv.h] at hh; split at hh <;> omega
  | r + 1, .app1 z a, g, hh, ht => by
    simp only [Vv.h] at hh
    have e := meas_vv r a g.2 (by omega) ht
    have hn : isName (.str z) = true := g.1.1
    simp only [Vv.t, meas, hn, if_true, e, Option.map, Vv.h, Vv.top]
  | r + 1, .app2 z a b, g, hh, ht => by
    have ha : a.h ≤ r := by simp only [Vv.h] at hh; split at hh <;> omega
    have hb : b.h ≤ r := by simp only [Vv.h] at hh; split at hh <;> omega
    have ta : a.top ≤ 3 := by simp only [Vv.top] at ht; split at ht <;> omega
    have tb : b.top ≤ 3 := by simp only [Vv.top] at ht; split at ht <;> omega
    have e1 := meas_vv r a g.2.1 ha ta
    have e2 := meas_vv r b g.2.2 hb tb
    have hn : isName (.str z) = true := g.1.1
    simp only [Vv.t, meas, hn, if_true, e1, e2, both2, Vv.h, Vv.top]
theorem ok_nm {z : Str} (h : goodNm z) : okT (.str z) = true := by
  simp only [okT, Bool.and_eq_true, decide_eq_true_eq]
  have : 8 ≤ sizeLine := by decide
  exact ⟨by have := h.2.1; omega, h.2.2⟩
theorem ok_vv : ∀ v : Vv, v.good → okT v.t = true ∧ (v.t.p.depth : Int) ≤ v.h ∧ size v.t ≤ 2 * v.size
  | .item i, _ => ⟨rfl, by simp [Vv.t, T.p, PyData.depth, Vv.h], by simp [Vv.t, My.size, Vv.size]⟩
  | .app1 z a, g => by
    obtain ⟨h1, h2, h3⟩ := ok_vv a g.2
    have h0 := ok_nm g.1
    refine ⟨?_, ?_, ?_⟩
    · simp only [Vv.t, okT, okTs, Bool.and_true] at *
      rw [h0, h1]; rfl
    · simp only [Vv.t, T.p, T.pl, PyData.depth, PyData.depthAll, Vv.h]; omega
    · simp only [Vv.t, My.size, sizes, Vv.size]; omega
  | .app2 z a b, g => by
    obtain ⟨h1, h2, h3⟩ := ok_vv a g.2.1
    obtain ⟨k1, k2, k3⟩ := ok_vv b g.2.2
    have h0 := ok_nm g.1
    refine ⟨?_, ?_, ?_⟩
    · simp only [Vv.t, okT, okTs, Bool.and_true] at *
      rw [h0, h1, k1]; rfl
    · simp only [Vv.t, T.p, T.pl, PyData.depth, PyData.depthAll, Vv.h]; split <;> omega
    · simp only [Vv.t, My.size, sizes, Vv.size]; omega
theorem vv_size : ∀ (r : Nat) (v : Vv), v.h ≤ r → v.size + 1 ≤ 2 ^ (r + 1)
  | r, .item _, _ => by
    have : 2 ^ 1 ≤ 2 ^ (r + 1) := Nat.pow_le_pow_right (by decide) (by omega)
    simp only [Vv.size]; omega
  | 0, .app1 z a, hh => by have := a.h_nonneg; simp only [Vv.h] at hh; omega
  | 0, .app2 z a b, hh => by have := a.h_nonneg; have := b.h_nonneg; simp only [Vv.h] at hh; split at hh <;> omega
  | r + 1, .app1 z a, hh => by
    simp only [Vv.h] at hh
    have := vv_size r a (by omega)
    have e : 2 ^ (r + 1 + 1) = 2 ^ (r + 1) + 2 ^ (r + 1) := by rw [Nat.pow_succ]; omega
    have : 2 ^ 1 ≤ 2 ^ (r + 1) := Nat.pow_le_pow_right (by decide) (by omega)
    simp only [Vv.size]; omega
  | r + 1, .app2 z a b, hh => by
    have ha : a.h ≤ r := by simp only [Vv.h] at hh; split at hh <;> omega
    have hb : b.h ≤ r := by simp only [Vv.h] at hh; split at hh <;> omega
    have := vv_size r a ha
    have := vv_size r b hb
    have e : 2 ^ (r + 1 + 1) = 2 ^ (r + 1) + 2 ^ (r + 1) := by rw [Nat.pow_succ]; omega
    simp only [Vv.size]; omega
mutual
theorem eqv_refl : ∀ t : T, PyData.eqv t.p t.p = true
  | .non => rfl
  | .bl b => by simp [T.p, PyData.eqv]
  | .int i => by simp [T.p, PyData.eqv]
  | .str z => by simp [T.p, PyData.eqv]
  | .tup xs => by simp only [T.p, PyData.eqv]; exact eqvs_refl xs
theorem eqvs_refl : ∀ ts : List T, PyData.eqvAll (T.pl ts) (T.pl ts) = true
  | [] => rfl
  | t :: ts => by simp only [T.pl, PyData.eqvAll, eqv_refl t, eqvs_refl ts, Bool.and_self]
end
theorem inT_mem {v : T} : ∀ {vs : List T}, v ∈ vs → inT v vs = true
  | u :: us, h => by
    unfold inT
    simp only [T.pl, List.any_cons, Bool.or_eq_true]
    rcases List.mem_cons.mp h with e | h
    · left; rw [e]; exact eqv_refl u
    · right; exact inT_mem h
noncomputable abbrev mkS (l : List Nat) : Str := ⟨l.toArray⟩
theorem mkS_tl (z : Str) : mkS z.cps.toList = z := by cases z; simp [mkS]
theorem tl_mkS (l : List Nat) : (mkS l).cps.toList = l := by simp [mkS]
theorem mkS_len (l : List Nat) : (mkS l).length = l.length := by simp [mkS, Str.length]
theorem mkS_inj {a b : List Nat} : mkS a = mkS b ↔ a = b := ⟨fun h => by rw [← tl_mkS a, h, tl_mkS], fun h => by rw [h]⟩
theorem cutS_lo (z : Str) (k : Nat) : L2.cutS z (some (k : Int)) none = mkS (z.cps.toList.drop k) := by
  have hl := len_cps z
  unfold L2.cutS
  rw [HT.sIx_nat, show HT.sIx z.length z.length none = z.length from rfl]
  congr 2
  rw [List.take_of_length_le (by rw [List.length_drop]; omega)]
  by_cases h : k ≤ z.length
  · rw [Nat.min_eq_left h]
  · rw [List.drop_eq_nil_of_le (by omega), List.drop_eq_nil_of_le (by omega)]
theorem cutS_hi (z : Str) (k : Nat) : L2.cutS z none (some (k : Int)) = mkS (z.cps.toList.take k) := by
  have hl := len_cps z
  unfold L2.cutS
  rw [HT.sIx_nat, show HT.sIx z.length 0 none = 0 from rfl]
  congr 2
  rw [List.drop_zero, Nat.sub_zero]
  by_cases h : k ≤ z.length
  · rw [Nat.min_eq_left h]
  · rw [List.take_of_length_le (by omega), List.take_of_length_le (by omega)]
theorem cutS_mid (z : Str) (k l : Nat) : L2.cutS z (some (k : Int)) (some (l : Int)) = mkS ((z.cps.toList.drop k).take (l - k)) := by
  have hl := len_cps z
  unfold L2.cutS
  rw [HT.sIx_nat, HT.sIx_nat]
  congr 2
  by_cases h : k ≤ z.length
  · rw [Nat.min_eq_left h]
    by_cases h2 : l ≤ z.length
    · rw [Nat.min_eq_left h2]
    · rw [List.take_of_length_le (by rw [List.length_drop]; omega), List.take_of_length_le (by rw [List.length_drop]; omega)]
  · rw [List.drop_eq_nil_of_le (by omega), List.drop_eq_nil_of_le (by omega), List.take_nil, List.take_nil]
theorem sIx_m1 (n d : Nat) (h : 1 ≤ n) : HT.sIx n d (some (-1)) = n - 1 := by
  unfold HT.sIx
  simp only
  rw [if_pos (by decide)]
  omega
theorem cutS_in (z : Str) (k : Nat) (h : 1 ≤ z.length) : L2.cutS z (some (k : Int)) (some (-1)) = mkS (z.cps.toList.drop k).dropLast := by
  have hl := len_cps z
  unfold L2.cutS
  rw [HT.sIx_nat, sIx_m1 _ _ h]
  congr 2
  rw [List.dropLast_eq_take, List.length_drop, ← hl]
  by_cases h2 : k ≤ z.length
  · rw [Nat.min_eq_left h2]
    congr 1
    omega
  · rw [List.drop_eq_nil_of_le (by omega), List.drop_eq_nil_of_le (by omega), List.take_nil, List.take_nil]
theorem mk_sl {l : List Nat} {n : Nat} (h : l.length ≤ n) : (mkS l).length ≤ n := by rw [mkS_len]; exact h
theorem mk_so {z : Str} (hz : PyData.strOk z = true) {l : List Nat} (h : ∀ c ∈ l, c ∈ z.cps.toList) : PyData.strOk (mkS l) = true := by
  have e : ∀ (y : Str), PyData.strOk y = true ↔ ∀ c ∈ y.cps.toList, c < 1114112 := fun y => by
    show y.cps.all (· < 0x110000) = true ↔ _
    rw [← Array.all_toList, List.all_eq_true]
    simp
  rw [e] at hz ⊢
  intro c hc
  rw [tl_mkS] at hc
  exact hz c (h c hc)
/-- one sign of a text -/
theorem atI_drop {l : List Nat} {p : Nat} {c : Nat} {r : List Nat} (h : l.drop p = c :: r) : L2.atI l (p : Int) = some c := by
  refine L2.atI_nat ?_
  have : (l.drop p)[0]? = some c := by rw [h]; rfl
  rw [List.getElem?_drop] at this
  simpa using this
noncomputable abbrev sgn (c : Nat) : Bool := decide (c ∈ SIG.cps.toList)
theorem sg40 : sgn 40 = false := by decide +kernel
theorem sg41 : sgn 41 = false := by decide +kernel
theorem sg44 : sgn 44 = false := by decide +kernel
theorem sg32 : sgn 32 = false := by decide +kernel
noncomputable def itemT (i : Int) : List Nat := 120 :: (Str.ofString (toString i)).cps.toList
theorem itemT1 : itemT 1 = [120, 49] := by decide +kernel
theorem itemT2 : itemT 2 = [120, 50] := by decide +kernel
theorem itemT3 : itemT 3 = [120, 51] := by decide +kernel
/-- the text of a value -/
noncomputable def tx : Vv → List Nat
  | .item i => itemT i
  | .app1 z a => z.cps.toList ++ 40 :: (tx a ++ [41])
  | .app2 z a b => z.cps.toList ++ 40 :: (tx a ++ (44 :: 32 :: (tx b ++ [41])))
/-- a value of a height at most r with items up to level 3 -/
noncomputable def Good (r : Nat) (v : Vv) : Prop := v.good ∧ v.top ≤ 3 ∧ v.h ≤ r
theorem Good.mono {r k : Nat} {v : Vv} (h : Good r v) (hk : r ≤ k) : Good k v := ⟨h.1, h.2.1, by have := h.2.2; omega⟩
theorem good_item {r : Nat} {i : Int} : Good r (.item i) ↔ 1 ≤ i ∧ i ≤ 3 := by
  unfold Good
  simp only [Vv.good, Vv.top, Vv.h]
  constructor
  · rintro ⟨a, b, _⟩; exact ⟨a, b⟩
  · rintro ⟨a, b⟩; exact ⟨a, b, by omega⟩
theorem good_app1 {r : Nat} {z : Str} {a : Vv} : Good r (.app1 z a) ↔ goodNm z ∧ ∃ k, r = k + 1 ∧ Good k a := by
  unfold Good
  have h0 := a.h_nonneg
  simp only [Vv.good, Vv.top, Vv.h]
  constructor
  · rintro ⟨⟨g, ga⟩, t, h⟩
    cases r with
    | zero => omega
    | succ k => exact ⟨g, k, rfl, ga, t, by omega⟩
  · rintro ⟨g, k, rfl, ga, t, h⟩
    exact ⟨⟨g, ga⟩, t, by omega⟩
theorem good_app2 {r : Nat} {z : Str} {a b : Vv} : Good r (.app2 z a b) ↔ goodNm z ∧ ∃ k, r = k + 1 ∧ Good k a ∧ Good k b := by
  unfold Good
  have h0 := a.h_nonneg
  have h1 := b.h_nonneg
  simp only [Vv.good, Vv.top, Vv.h]
  constructor
  · rintro ⟨⟨g, ga, gb⟩, t, h⟩
    cases r with
    | zero => split at h <;> omega
    | succ k => exact ⟨g, k, rfl, ⟨ga, by split at t <;> omega, by split at h <;> omega⟩, ⟨gb, by split at t <;> omega, by split at h <;> omega⟩⟩
  · rintro ⟨g, k, rfl, ⟨ga, ta, ha⟩, gb, tb, hb⟩
    exact ⟨⟨g, ga, gb⟩, by split <;> omega, by split <;> omega⟩
theorem isNm_good {z : Str} (h : isNm z = true) : goodNm z := by
  unfold isNm at h
  split at h
  · cases h
  · rename_i c r e
    simp only [Bool.and_eq_true, decide_eq_true_eq, List.all_eq_true] at h
    have hz : z.length = r.length + 1 := by rw [len_cps, e]; rfl
    exact good_chars e h.2.1 (fun x hx => h.2.2 x (List.mem_cons_of_mem _ hx)) (by omega)
theorem nm_signs {z : Str} (h : isNm z = true) : ∀ c ∈ z.cps.toList, sgn c = true := by
  unfold isNm at h
  split at h
  · cases h
  · rename_i c r e
    simp only [Bool.and_eq_true, decide_eq_true_eq, List.all_eq_true] at h
    intro x hx
    rw [e] at hx
    exact decide_eq_true (h.2.2 x hx)
theorem nm_ne {z : Str} (h : isNm z = true) : z.cps.toList ≠ [] := by
  intro e
  unfold isNm at h
  rw [e] at h
  cases h
/-- x1, x2, x3 -/
noncomputable def itemOf (l : List Nat) : Option Int := if l = [120, 49] then some 1 else if l = [120, 50] then some 2 else if l = [120, 51] then some 3 else none
theorem itemOf_some {l : List Nat} {i : Int} (h : itemOf l = some i) : l = itemT i ∧ 1 ≤ i ∧ i ≤ 3 := by
  unfold itemOf at h
  split at h
  · cases h; rename_i e; exact ⟨by rw [e, itemT1], by decide, by decide⟩
  · split at h
    · cases h; rename_i e; exact ⟨by rw [e, itemT2], by decide, by decide⟩
    · split at h
      · cases h; rename_i e; exact ⟨by rw [e, itemT3], by decide, by decide⟩
      · cases h
theorem itemOf_item {i : Int} (h1 : 1 ≤ i) (h3 : i ≤ 3) : itemOf (itemT i) = some i ∧ (∀ c ∈ itemT i, sgn c = true) ∧ (∀ c ∈ itemT i, c ≠ 40 ∧ c ≠ 41 ∧ c ≠ 44) := by
  have h : i = 1 ∨ i = 2 ∨ i = 3 := by omega
  rcases h with rfl | rfl | rfl
  · rw [itemT1]; decide +kernel
  · rw [itemT2]; decide +kernel
  · rw [itemT3]; decide +kernel
noncomputable def nameL (l : List Nat) : List Nat := l.takeWhile sgn
noncomputable def restL (l : List Nat) : List Nat := l.dropWhile sgn
theorem name_rest (l : List Nat) : nameL l ++ restL l = l := List.takeWhile_append_dropWhile
noncomputable def rdT3 (z : Str) (a b : Vv) : List Nat → Option (Vv × List Nat)
  | 41 :: r => some (.app2 z a b, r)
  | _ => none
/-- what stands behind the first part -/
noncomputable def rdT2 (rd : List Nat → Option (Vv × List Nat)) (z : Str) (a : Vv) : List Nat → Option (Vv × List Nat)
  | 41 :: r => some (.app1 z a, r)
  | 44 :: 32 :: r => match rd r with
    | none => none
    | some (b, q) => rdT3 z a b q
  | _ => none
noncomputable def rdTail (rd : List Nat → Option (Vv × List Nat)) (z : Str) (l : List Nat) : Option (Vv × List Nat) := match rd l with
  | none => none
  | some (a, q) => rdT2 rd z a q
/-- a name, and what is made of it when a bracket opens behind it -/
noncomputable def rdHd (op : List Nat → Option (Vv × List Nat)) (l : List Nat) : Option (Vv × List Nat) := match restL l with
  | 40 :: q => op q
  | q => (itemOf (nameL l)).map fun i => (.item i, q)
noncomputable def rdP : Nat → List Nat → Option (Vv × List Nat)
  | 0, l => rdHd (fun _ => none) l
  | k + 1, l => rdHd (fun q => if isNm (mkS (nameL l)) = true then rdTail (rdP k) (mkS (nameL l)) q else none) l
theorem rdP_open {k : Nat} {l q : List Nat} (h : restL l = 40 :: q) : rdP (k + 1) l = if isNm (mkS (nameL l)) = true then rdTail (rdP k) (mkS (nameL l)) q else none := by
  rw [rdP, rdHd, h]
  rfl
theorem rdP_open0 {l q : List Nat} (h : restL l = 40 :: q) : rdP 0 l = none := by
  rw [rdP, rdHd, h]
  rfl
theorem rdHd_item {op : List Nat → Option (Vv × List Nat)} {l : List Nat} (h : ∀ q, restL l ≠ 40 :: q) : rdHd op l = (itemOf (nameL l)).map fun i => (.item i, restL l) := by
  unfold rdHd
  split
  · rename_i e; exact absurd e (h _)
  · rfl
theorem rdP_item {r : Nat} {l : List Nat} (h : ∀ q, restL l ≠ 40 :: q) : rdP r l = (itemOf (nameL l)).map fun i => (.item i, restL l) := by
  cases r with
  | zero => rw [rdP, rdHd_item h]
  | succ k => rw [rdP, rdHd_item h]
theorem rdT2_sound {rd : List Nat → Option (Vv × List Nat)} {k : Nat} (hrd : ∀ l v q, rd l = some (v, q) → l = tx v ++ q ∧ Good k v) {z : Str} (hz : goodNm z) {a : Vv} (ha : Good k a) {l q : List Nat} {v : Vv} (h : rdT2 rd z a l = some (v, q)) :
    z.cps.toList ++ 40 :: (tx a ++ l) = tx v ++ q ∧ Good (k + 1) v := by
  unfold rdT2 at h
  split at h
  · cases h
    exact ⟨by simp [tx], good_app1.mpr ⟨hz, k, rfl, ha⟩⟩
  · split at h
    · cases h
    · rename_i b q1 e
      obtain ⟨e1, gb⟩ := hrd _ _ _ e
      unfold rdT3 at h
      split at h
      · cases h
        exact ⟨by rw [e1]; simp [tx], good_app2.mpr ⟨hz, k, rfl, ha, gb⟩⟩
      · cases h
  · cases h
theorem rdP_sound : ∀ (r : Nat) (l : List Nat) (v : Vv) (q : List Nat), rdP r l = some (v, q) → l = tx v ++ q ∧ Good r v
  | r, l, v, q, h => by
    by_cases ho : ∃ q1, restL l = 40 :: q1
    · obtain ⟨q1, e⟩ := ho
      cases r with
      | zero => rw [rdP_open0 e] at h; cases h
      | succ k =>
        rw [rdP_open e] at h
        split at h
        · rename_i hn
          unfold rdTail at h
          split at h
          · cases h
          · rename_i a q2 ea
            obtain ⟨e1, ga⟩ := rdP_sound k _ _ _ ea
            obtain ⟨e2, gv⟩ := rdT2_sound (fun l v q => rdP_sound k l v q) (isNm_good hn) ga h
            refine ⟨?_, gv⟩
            rw [← e2, tl_mkS, ← e1, ← e, name_rest]
        · cases h
    · rw [rdP_item (fun q e => ho ⟨q, e⟩)] at h
      obtain ⟨i, e1, e2⟩ := Option.map_eq_some_iff.mp h
      cases e2
      obtain ⟨e3, h1, h3⟩ := itemOf_some e1
      exact ⟨by rw [tx, ← e3, name_rest], good_item.mpr ⟨h1, h3⟩⟩
theorem span_app {l q : List Nat} (h : ∀ c ∈ l, sgn c = true) (hq : ∀ c r, q = c :: r → sgn c = false) : nameL (l ++ q) = l ∧ restL (l ++ q) = q := by
  induction l with
  | nil =>
    cases q with
    | nil => exact ⟨rfl, rfl⟩
    | cons c r =>
      have e := hq c r rfl
      unfold nameL restL
      rw [List.nil_append, List.takeWhile_cons, List.dropWhile_cons, e]
      exact ⟨rfl, rfl⟩
  | cons c l ih =>
    obtain ⟨i1, i2⟩ := ih fun x hx => h x (List.mem_cons_of_mem _ hx)
    have e := h c List.mem_cons_self
    unfold nameL restL at *
    rw [List.cons_append, List.takeWhile_cons, List.dropWhile_cons, e]
    exact ⟨congrArg (c :: ·) i1, i2⟩
/-- what may stand behind an item -/
noncomputable def Ends (q : List Nat) : Prop := ∀ c r, q = c :: r → sgn c = false ∧ c ≠ 40
theorem ends41 (q : List Nat) : Ends (41 :: q) := fun c r e => by cases e; exact ⟨sg41, by decide⟩
theorem ends44 (q : List Nat) : Ends (44 :: q) := fun c r e => by cases e; exact ⟨sg44, by decide⟩
theorem ends_nil : Ends [] := fun c r e => nomatch e
theorem rdP_complete : ∀ (v : Vv) (r : Nat) (q : List Nat), Good r v → Ends q → rdP r (tx v ++ q) = some (v, q)
  | .item i, r, q, g, hq => by
    obtain ⟨h1, h3⟩ := good_item.mp g
    obtain ⟨e1, e2, _⟩ := itemOf_item h1 h3
    obtain ⟨s1, s2⟩ := span_app (l := itemT i) (q := q) e2 fun c r e => (hq c r e).1
    rw [tx, rdP_item (fun q' e => ?_), s1, s2, e1]
    · rfl
    · rw [s2] at e
      exact (hq 40 q' e).2 rfl
  | .app1 z a, r, q, g, hq => by
    obtain ⟨gz, k, rfl, ga⟩ := good_app1.mp g
    have e : tx (.app1 z a) ++ q = z.cps.toList ++ (40 :: (tx a ++ (41 :: q))) := by simp [tx]
    obtain ⟨s1, s2⟩ := span_app (l := z.cps.toList) (q := 40 :: (tx a ++ (41 :: q))) (nm_signs gz.1) fun c r e => by cases e; exact sg40
    rw [e, rdP_open s2, s1, mkS_tl, if_pos gz.1]
    unfold rdTail
    rw [rdP_complete a k (41 :: q) ga (ends41 q)]
    rfl
  | .app2 z a b, r, q, g, hq => by
    obtain ⟨gz, k, rfl, ga, gb⟩ := good_app2.mp g
    have e : tx (.app2 z a b) ++ q = z.cps.toList ++ (40 :: (tx a ++ (44 :: 32 :: (tx b ++ (41 :: q))))) := by simp [tx]
    obtain ⟨s1, s2⟩ := span_app (l := z.cps.toList) (q := 40 :: (tx a ++ (44 :: 32 :: (tx b ++ (41 :: q))))) (nm_signs gz.1) fun c r e => by cases e; exact sg40
    rw [e, rdP_open s2, s1, mkS_tl, if_pos gz.1]
    unfold rdTail
    rw [rdP_complete a k _ ga (ends44 _)]
    show (match rdP k (tx b ++ (41 :: q)) with | none => none | some (b, q) => rdT3 z a b q) = _
    rw [rdP_complete b k _ gb (ends41 q)]
    rfl
theorem tx_len : ∀ (v : Vv) (r : Nat), Good r v → (tx v).length + 4 ≤ 14 * v.size
  | .item i, r, g => by
    obtain ⟨h1, h3⟩ := good_item.mp g
    have h : i = 1 ∨ i = 2 ∨ i = 3 := by omega
    rcases h with rfl | rfl | rfl <;> simp only [tx, itemT1, itemT2, itemT3, Vv.size] <;> decide
  | .app1 z a, r, g => by
    obtain ⟨gz, k, rfl, ga⟩ := good_app1.mp g
    have := tx_len a k ga
    have := gz.2.1
    rw [len_cps] at this
    simp only [tx, Vv.size, List.length_append, List.length_cons, List.length_nil]; omega
  | .app2 z a b, r, g => by
    obtain ⟨gz, k, rfl, ga, gb⟩ := good_app2.mp g
    have := tx_len a k ga
    have := tx_len b k gb
    have := gz.2.1
    rw [len_cps] at this
    simp only [tx, Vv.size, List.length_append, List.length_cons, List.length_nil]; omega
theorem tx_short {r : Nat} {v : Vv} (g : Good r v) : (tx v).length ≤ 14 * 2 ^ (r + 1) := by
  have := tx_len v r g
  have := vv_size r v g.2.2
  omega
noncomputable def neT : CE := match b_name_end with
  | .whileS t _ :: _ => t
  | _ => .cst .non
noncomputable def neB : List CS := match b_name_end with
  | .whileS _ b :: _ => b
  | _ => []
theorem nend_loop {G : G3} {ex : Kxs} {z : Str} {D : EndsC} {C : CH} (hz : z.length ≤ sizeLine) : ∀ (m p : Nat), z.length < m + p → p ≤ z.length →
    D.nx [some (.str z), some (.int ((p + (nameL (z.cps.toList.drop p)).length : Nat) : Int))] C → whileN (rdT G ex neT) (rdSs G ex neB) D m [some (.str z), some (.int (p : Nat))] C
  | 0, p, h1, h2, hK => by omega
  | m + 1, p, h1, h2, hK => by
    have hl := len_cps z
    unfold whileN
    conv => rw [neT, b_name_end]
    dsimp only
    simp_arith []
    refine ⟨hz, ?_⟩
    by_cases hp : p < z.length
    · have hp' : ((p : Nat) : Int) < ((z.length : Nat) : Int) := by omega
      rw [if_pos (decide_eq_true hp')]
      obtain ⟨c, r, e⟩ : ∃ c r, z.cps.toList.drop p = c :: r := by
        cases q : z.cps.toList.drop p with
        | nil => have := List.drop_eq_nil_iff.mp q; omega
        | cons c r => exact ⟨c, r, rfl⟩
      refine ⟨hz, c, atI_drop e, ?_⟩
      refine ⟨_, rfl, ?_⟩
      rw [e] at hK
      by_cases hc : sgn c = true
      · have hc' : decide (c ∈ (Str.ofString "abcdefghijklmnopqrstuvwxyz0123456789").cps.toList) = true := hc
        rw [if_pos hc']
        conv => rw [neB, b_name_end]
        dsimp only
        rw [rdSs_cons]
        simp_arith []
        refine ⟨.int (p : Nat), rfl, ?_⟩
        have e2 : z.cps.toList.drop (p + 1) = r := by rw [← List.drop_drop, e]; rfl
        have e3 : nameL (c :: r) = c :: nameL r := by unfold nameL; rw [List.takeWhile_cons, if_pos hc]
        rw [e3] at hK
        have := nend_loop (G := G) (ex := ex) (D := D) (C := C) hz m (p + 1) (by omega) (by omega) (by rw [e2]; simp only [List.length_cons] at hK; rw [show p + 1 + (nameL r).length = p + ((nameL r).length + 1) by omega]; exact hK)
        exact this
      · have e3 : nameL (c :: r) = [] := by unfold nameL; rw [List.takeWhile_cons, if_neg hc]
        rw [e3] at hK
        have hc' : ¬ decide (c ∈ (Str.ofString "abcdefghijklmnopqrstuvwxyz0123456789").cps.toList) = true := hc
        rw [if_neg hc']
        exact hK
    · have hp' : ¬ ((p : Nat) : Int) < ((z.length : Nat) : Int) := by omega
      rw [if_neg (by simp [hp'])]
      have e : z.cps.toList.drop p = [] := List.drop_eq_nil_of_le (by omega)
      rw [e] at hK
      exact hK
theorem name_end_ok {n p : Nat} {z : Str} {C : CH} {Q : Kv} {E : Kx} (hz : z.length ≤ sizeLine) (hp : p ≤ z.length) (hq : Q (.int ((p + (nameL (z.cps.toList.drop p)).length : Nat) : Int)) C) : W (n + 1) i_name_end [.str z, .int (p : Nat)] C Q E := by
  rw [W_name_end]
  unfold b_name_end
  rw [rdSs_cons, rdS_while]
  refine ⟨z.length + 1, ?_⟩
  refine (show whileN (rdT (GG n) (exN E) neT) (rdSs (GG n) (exN E) neB) _ _ _ _ from nend_loop hz _ p (by omega) hp ?_)
  dsimp only
  rw [rdSs_cons]
  simp_arith []
  exact ⟨C, Sub.refl, hq⟩
theorem s_open : Str.ofString "(" = mkS [40] := by decide +kernel
theorem s_close : Str.ofString ")" = mkS [41] := by decide +kernel
theorem s_comma : Str.ofString ", " = mkS [44, 32] := by decide +kernel
theorem s_x1 : Str.ofString "x1" = mkS [120, 49] := by decide +kernel
theorem s_x2 : Str.ofString "x2" = mkS [120, 50] := by decide +kernel
theorem s_x3 : Str.ofString "x3" = mkS [120, 51] := by decide +kernel
theorem oInF_str3 {f : Bool → Bool} {w a b c : Str} {C : CH} {Q : Kv} : oInF f (.str w) (.tup [.str a, .str b, .str c]) C Q ↔ Q (.bl (f (decide (w = a) || (decide (w = b) || decide (w = c))))) C := by
  have e : L2.inV (toV (.str w)) ([D.str a, D.str b, D.str c].map toV) = (decide (w = a) || (decide (w = b) || decide (w = c))) := by
    show ((L2.eqV (.str a) (.str w)) || ((L2.eqV (.str b) (.str w)) || ((L2.eqV (.str c) (.str w)) || false))) = _
    rw [Bool.or_false]
    have q : ∀ x : Str, L2.eqV (.str x) (.str w) = decide (w = x) := fun x => by
      by_cases h : w = x
      · subst h; simp [L2.eqV]
      · have h' : ¬ x = w := fun z => h z.symm
        simp [L2.eqV, h, h']
    rw [q, q, q]
  constructor
  · rintro ⟨ds, h1, _, _, h⟩
    rw [SqC_tup] at h1
    subst h1
    rw [e] at h
    exact h
  · intro h
    exact ⟨_, SqC_tup.mpr rfl, rfl, rfl, by rw [e]; exact h⟩
theorem item_in (l : List Nat) : (decide (mkS l = Str.ofString "x1") || (decide (mkS l = Str.ofString "x2") || decide (mkS l = Str.ofString "x3"))) = (itemOf l).isSome := by
  rw [s_x1, s_x2, s_x3]
  simp only [mkS_inj]
  unfold itemOf
  by_cases h1 : l = [120, 49]
  · simp [h1]
  · by_cases h2 : l = [120, 50]
    · simp [h2]
    · by_cases h3 : l = [120, 51]
      · simp [h3]
      · simp [h1, h2, h3]
/-- int(name[1]) -/
theorem item_digit {l : List Nat} {i : Int} (h : itemOf l = some i) : ∃ c, L2.atI l 1 = some c ∧ PySem.intText? ⟨#[c]⟩ = some i := by
  unfold itemOf at h
  split at h
  · cases h; rename_i e; rw [e]; exact ⟨49, atI_one, by decide +kernel⟩
  · split at h
    · cases h; rename_i e; rw [e]; exact ⟨50, atI_one, by decide +kernel⟩
    · split at h
      · cases h; rename_i e; rw [e]; exact ⟨51, atI_one, by decide +kernel⟩
      · cases h
theorem cutS_m1 (z : Str) (k : Nat) : L2.cutS z (some (k : Int)) (some ((k : Int) + 1)) = mkS ((z.cps.toList.drop k).take 1) := by
  have := cutS_mid z k (k + 1)
  rw [show k + 1 - k = 1 by omega] at this
  exact this
theorem cutS_m2 (z : Str) (k : Nat) : L2.cutS z (some (k : Int)) (some ((k : Int) + 2)) = mkS ((z.cps.toList.drop k).take 2) := by
  have := cutS_mid z k (k + 2)
  rw [show k + 2 - k = 2 by omega] at this
  exact this
/-- what read_at answers -/
noncomputable def rdD (n : Nat) : Option (Vv × List Nat) → D
  | none => .non
  | some (v, q) => .tup [v.t.d, .int ((n - q.length : Nat) : Int)]
theorem name_take (l : List Nat) : l.take (nameL l).length = nameL l := by
  have := List.take_left (l₁ := nameL l) (l₂ := restL l)
  rw [name_rest] at this
  exact this
theorem rest_drop (l : List Nat) : l.drop (nameL l).length = restL l := by
  have := List.drop_left (l₁ := nameL l) (l₂ := restL l)
  rw [name_rest] at this
  exact this
noncomputable def raW : List CS := match b_read_at with
  | _ :: _ :: _ :: _ :: _ :: _ :: .whileS _ b :: _ => b
  | _ => []
noncomputable def raT : CE := match b_read_at with
  | _ :: _ :: _ :: _ :: _ :: _ :: .whileS t _ :: _ => t
  | _ => .cst .non
theorem drop_mem {l : List Nat} {k m : Nat} : ∀ c ∈ (l.drop k).take m, c ∈ l := fun c h => List.mem_of_mem_drop (List.mem_of_mem_take h)
/-- tuple(parts) -/
theorem oTuple_lst {C : CH} {p : Addr} {ds : List D} {Q : Kv} (h : C p = some (.lst ds)) (q : Q (.tup ds) C) : oTuple [.ref p] C Q := ⟨_, ds, rfl, .inr (.inr ⟨p, rfl, h⟩), q⟩
theorem oAppend_at {C : CH} {p : Addr} {xs : List D} {y : D} {Q : Kv} (h : C p = some (.lst xs)) (hl : xs.length < sizeLine) (q : Q .non (cup C p (.lst (xs ++ [y])))) : oAppend (.ref p) [y] C Q := ⟨p, xs, y, rfl, rfl, h, hl, q⟩
/-- one part is read, and what stands behind it is looked at -/
theorem ra_round {n k m : Nat} {z : Str} {ex : Kxs} {D0 : EndsC} {y1 y4 y6 : Option D} {C : CH} {P : Addr} {ds : List D} {q : List Nat} {e : Nat} (hz : z.length ≤ sizeLine) (so : PyData.strOk z = true)
    (ih : ∀ (p : Nat) (C : CH) (Q : Kv) (E : Kx), p ≤ z.length → Q (rdD z.length (rdP k (z.cps.toList.drop p))) C → W n i_read_at [.str z, .int (p : Nat), .int (k : Nat)] C Q E)
    (he : e ≤ z.length) (eq_ : z.cps.toList.drop e = q) (hP : C P = some (.lst ds)) (hd : ds.length < 3)
    (hN : rdP k q = none → D0.rt .non C)
    (hS : ∀ a q2, rdP k q = some (a, q2) → ∀ e2, z.cps.toList.drop e2 = q2 → e2 ≤ z.length →
      (q2.take 2 = [44, 32] → whileN (rdT (GG n) ex raT) (rdSs (GG n) ex raW) D0 m [some (.str z), y1, some (.int ((k + 1 : Nat) : Int)), some (.int ((e2 + 2 : Nat) : Int)), y4, some (.ref P), some (.tup [a.t.d, .int (e2 : Nat)])] (cup C P (.lst (ds ++ [a.t.d])))) ∧
      (q2.take 2 ≠ [44, 32] → D0.rt (if q2.take 1 = [41] then .tup [.tup (ds ++ [a.t.d]), .int ((e2 + 1 : Nat) : Int)] else .non) (cup C P (.lst (ds ++ [a.t.d]))))) :
    whileN (rdT (GG n) ex raT) (rdSs (GG n) ex raW) D0 (m + 1) [some (.str z), y1, some (.int ((k + 1 : Nat) : Int)), some (.int (e : Nat)), y4, some (.ref P), y6] C := by
  have hl := len_cps z
  unfold whileN
  conv => rw [raT, b_read_at]
  dsimp only
  simp_arith [hP]
  have hd' : ((ds.length : Nat) : Int) < 3 := by omega
  rw [if_pos (decide_eq_true hd')]
  conv => rw [raW, b_read_at]
  dsimp only
  rw [rdSs_cons]
  have ek : ((k + 1 : Nat) : Int) - 1 = (k : Nat) := by omega
  simp_arith [GG_call, ek]
  refine ih e C _ _ he ?_
  rw [eq_]
  cases hr : rdP k q with
  | none =>
    rw [rdD]
    rw [rdSs_cons]
    simp_arith []
    exact hN hr
  | some aq =>
    obtain ⟨a, q2⟩ := aq
    obtain ⟨e1, _⟩ := rdP_sound _ _ _ _ hr
    have hlen : q.length = z.length - e := by rw [← eq_, List.length_drop, ← hl]
    have l1 : q.length = (tx a).length + q2.length := by rw [e1, List.length_append]
    rw [rdD]
    have e2 : z.cps.toList.drop (z.length - q2.length) = q2 := by
      have : z.length - q2.length = e + (tx a).length := by omega
      rw [this, ← List.drop_drop, eq_, e1, List.drop_left]
    obtain ⟨s1, s2⟩ := hS a q2 hr _ e2 (by omega)
    generalize z.length - q2.length = e' at e2 s1 s2 ⊢
    rw [rdSs_cons]
    simp_arith []
    rw [rdSs_cons]
    simp_arith []
    refine ⟨⟨P, ds, rfl, hP⟩, oAppend_at hP (Nat.lt_of_lt_of_le hd (by decide)) ?_⟩
    rw [rdSs_cons]
    simp_arith []
    rw [rdSs_cons]
    simp_arith []
    have so2 : ∀ j, PyData.strOk (mkS (q2.take j)) = true := fun j => mk_so so fun c hc => drop_mem (k := e') (m := j) c (by rw [e2]; exact hc)
    have soc : PyData.strOk (mkS [44, 32]) = true := by decide +kernel
    have sop : PyData.strOk (mkS [41]) = true := by decide +kernel
    refine ⟨hz, ?_⟩
    rw [cutS_m2, e2, s_comma, oEqN_strI (so2 2) soc]
    simp_arith [mkS_inj]
    by_cases hc : q2.take 2 = [44, 32]
    · rw [if_neg (by simp [hc])]
      rw [rdSs_cons]
      simp_arith []
      refine ⟨.int (e' : Nat), rfl, ?_⟩
      exact s1 hc
    · rw [if_pos (by simp [hc])]
      rw [rdSs_cons]
      simp_arith []
      refine ⟨hz, ?_⟩
      rw [cutS_m1, e2, s_close, oEqN_strI (so2 1) sop]
      simp_arith [mkS_inj]
      have := s2 hc
      by_cases h1 : q2.take 1 = [41]
      · rw [if_pos h1] at this
        rw [if_pos (decide_eq_true h1)]
        exact oTuple_lst cup_same this
      · rw [if_neg h1] at this
        rw [if_neg (by simp [h1])]
        exact this
theorem rdD_item {N : Nat} {i : Int} {q : List Nat} : rdD N (some (.item i, q)) = .tup [.int i, .int ((N - q.length : Nat) : Int)] := rfl
theorem rdT2_none {rd : List Nat → Option (Vv × List Nat)} {z : Str} {a : Vv} {q : List Nat} (h1 : q.take 2 ≠ [44, 32]) (h2 : q.take 1 ≠ [41]) : rdT2 rd z a q = none := by
  unfold rdT2
  split
  · simp at h2
  · simp at h1
  · rfl
theorem take1 {q : List Nat} {c : Nat} (h : q.take 1 = [c]) : ∃ r, q = c :: r := by
  match q, h with
  | a :: r, h => simp at h; exact ⟨r, by rw [h]⟩
  | [], h => simp at h
theorem take2 {q : List Nat} {c d : Nat} (h : q.take 2 = [c, d]) : ∃ r, q = c :: d :: r := by
  match q, h with
  | a :: b :: r, h => simp at h; exact ⟨r, by rw [h.1, h.2]⟩
  | [a], h => simp at h
  | [], h => simp at h
theorem drop_pos {l : List Nat} {e c : Nat} {r : List Nat} (h : l.drop e = c :: r) : l.length - r.length = e + 1 ∧ e + 1 ≤ l.length := by
  have := congrArg List.length h
  rw [List.length_drop] at this
  simp only [List.length_cons] at this
  omega
theorem app1_d {z : Str} {a : Vv} : (Vv.app1 z a).t.d = .tup [.str z, a.t.d] := by simp only [Vv.t, T.d, T.ds]
theorem app2_d {z : Str} {a b : Vv} : (Vv.app2 z a b).t.d = .tup [.str z, a.t.d, b.t.d] := by simp only [Vv.t, T.d, T.ds]
theorem read_at_ok : ∀ (r n p : Nat) (z : Str) (C : CH) (Q : Kv) (E : Kx), z.length ≤ sizeLine → PyData.strOk z = true → p ≤ z.length → Q (rdD z.length (rdP r (z.cps.toList.drop p))) C → W (n + r + 2) i_read_at [.str z, .int (p : Nat), .int (r : Nat)] C Q E
  | r, n, p, z, C, Q, E, hz, so, hp, hq => by
    have hl := len_cps z
    generalize hL : z.cps.toList.drop p = l at hq
    have hnr := name_rest l
    have hlen : l.length = z.length - p := by rw [← hL, List.length_drop, ← hl]
    have hle : (nameL l).length + (restL l).length = l.length := by rw [← List.length_append, hnr]
    have he : z.cps.toList.drop (p + (nameL l).length) = restL l := by rw [← List.drop_drop, hL, rest_drop]
    have hE : z.length - (restL l).length = p + (nameL l).length := by omega
    rw [W_read_at]
    unfold b_read_at
    rw [rdSs_cons]
    simp_arith [GG_call]
    refine name_end_ok hz hp ?_
    rw [hL]
    have hmid : L2.cutS z (some (p : Int)) (some ((p + (nameL l).length : Nat) : Int)) = mkS (nameL l) := by
      rw [cutS_mid, hL, show p + (nameL l).length - p = (nameL l).length by omega, name_take]
    generalize p + (nameL l).length = e at hmid he hE
    rw [rdSs_cons]
    simp_arith []
    refine ⟨hz, ?_⟩
    rw [hmid]
    have nl : (mkS (nameL l)).length ≤ sizeLine := by rw [mkS_len]; omega
    have nso : PyData.strOk (mkS (nameL l)) = true := mk_so so fun c hc => List.mem_of_mem_drop (i := p) (by rw [hL, ← hnr]; exact List.mem_append_left _ hc)
    have rso : ∀ j, PyData.strOk (mkS ((restL l).take j)) = true := fun j => mk_so so fun c hc => drop_mem (k := e) (m := j) c (by rw [he]; exact hc)
    have soo : PyData.strOk (mkS [40]) = true := by decide +kernel
    rw [rdSs_cons]
    simp_arith []
    refine ⟨hz, ?_⟩
    rw [cutS_m1, he, s_open, oEqN_strI (rso 1) soo]
    simp_arith [mkS_inj]
    by_cases ho : ∃ q, restL l = 40 :: q
    · obtain ⟨q, eq_⟩ := ho
      rw [if_neg (by simp [eq_])]
      rw [rdSs_cons]
      cases r with
      | zero =>
        rw [rdP_open0 eq_] at hq
        simp_arith []
        rw [rdSs_cons]
        simp_arith []
        exact ⟨C, Sub.refl, hq⟩
      | succ k =>
        rw [rdP_open eq_] at hq
        have hr0 : (((k + 1 : Nat) : Int) = 0) = False := by simp; omega
        simp_arith [GG_call, hr0, decide_false]
        refine is_name_ok (t := .str (mkS (nameL l))) ?_ (fun y hy => by cases hy; exact nl)
        by_cases hn : isNm (mkS (nameL l)) = true
        · rw [if_pos hn] at hq
          have hn' : isName (.str (mkS (nameL l))) = true := hn
          simp_arith [hn']
          have eq1 : z.cps.toList.drop (e + 1) = q := by rw [← List.drop_drop, he, eq_]; rfl
          have hq1 : 1 ≤ (restL l).length := by rw [eq_]; simp
          rw [rdSs_cons]
          simp_arith [oLst]
          intro P hP
          rw [rdSs_cons]
          simp_arith []
          refine ⟨_, rfl, ?_⟩
          refine (show rdSs (GG (n + k + 2)) (exN E) [.whileS raT raW, .ret (.cst .non)] (endN Q) [some (.str z), some (.int (p : Nat)), some (.int ((k + 1 : Nat) : Int)), some (.int ((e + 1 : Nat) : Int)), some (.str (mkS (nameL l))), some (.ref P), none] (cup C P (.lst [.str (mkS (nameL l))])) from ?_)
          rw [rdSs_cons, rdS_while]
          refine ⟨3, ?_⟩
          unfold rdTail at hq
          refine (show whileN (rdT (GG (n + k + 2)) (exN E) raT) (rdSs (GG (n + k + 2)) (exN E) raW) _ (2 + 1) _ _ from ra_round (k := k) (m := 2) (e := e + 1) hz so
            (fun p C Q E h h2 => read_at_ok k n p z C Q E hz so h h2) (by omega) eq1 cup_same (by simp) (fun hr => ?_) fun a q2 hr e2 hd2 hl2 => ⟨fun hc => ?_, fun hc => ?_⟩)
          · rw [hr] at hq
            exact ⟨C, sub_new hP, hq⟩
          · rw [hr] at hq
            obtain ⟨q3, rfl⟩ := take2 hc
            have d3 : z.cps.toList.drop (e2 + 2) = q3 := by rw [← List.drop_drop, hd2]; rfl
            have l3 : e2 + 2 ≤ z.length := by
              have := congrArg List.length hd2
              rw [List.length_drop] at this
              simp only [List.length_cons] at this
              omega
            have hq' : Q (rdD z.length (match rdP k q3 with | none => none | some (b, q) => rdT3 (mkS (nameL l)) a b q)) C := hq
            refine ra_round (k := k) (m := 1) hz so (fun p C Q E h h2 => read_at_ok k n p z C Q E hz so h h2) l3 d3 cup_same (by simp) (fun hr2 => ?_) fun b q4 hr2 e4 hd4 hl4 => ⟨fun hc4 => ?_, fun hc4 => ?_⟩
            · rw [hr2] at hq'
              exact ⟨C, sub_at hP (sub_new hP), hq'⟩
            · rw [hr2] at hq'
              obtain ⟨q5, rfl⟩ := take2 hc4
              unfold whileN
              conv => rw [raT, b_read_at]
              dsimp only
              simp_arith [cup_same]
              rw [if_neg (by simp), rdSs_cons]
              simp_arith []
              exact ⟨C, sub_at hP (sub_at hP (sub_new hP)), hq'⟩
            · rw [hr2] at hq'
              by_cases h1 : q4.take 1 = [41]
              · obtain ⟨q5, rfl⟩ := take1 h1
                obtain ⟨dp, _⟩ := drop_pos hd4
                rw [if_pos h1]
                rw [← hl] at dp
                have hq2 : Q (.tup [(Vv.app2 (mkS (nameL l)) a b).t.d, .int ((z.length - q5.length : Nat) : Int)]) C := hq'
                rw [dp, app2_d] at hq2
                exact ⟨C, sub_at hP (sub_at hP (sub_new hP)), hq2⟩
              · rw [if_neg h1]
                have e0 : rdT3 (mkS (nameL l)) a b q4 = none := by
                  unfold rdT3
                  split
                  · simp at h1
                  · rfl
                have hq2 : Q (rdD z.length (rdT3 (mkS (nameL l)) a b q4)) C := hq'
                rw [e0] at hq2
                exact ⟨C, sub_at hP (sub_at hP (sub_new hP)), hq2⟩
          · rw [hr] at hq
            have hq' : Q (rdD z.length (rdT2 (rdP k) (mkS (nameL l)) a q2)) C := hq
            by_cases h1 : q2.take 1 = [41]
            · obtain ⟨q5, rfl⟩ := take1 h1
              obtain ⟨dp, _⟩ := drop_pos hd2
              rw [if_pos h1]
              rw [← hl] at dp
              have hq2 : Q (.tup [(Vv.app1 (mkS (nameL l)) a).t.d, .int ((z.length - q5.length : Nat) : Int)]) C := hq'
              rw [dp, app1_d] at hq2
              exact ⟨C, sub_at hP (sub_new hP), hq2⟩
            · rw [if_neg h1]
              rw [rdT2_none hc h1] at hq'
              exact ⟨C, sub_at hP (sub_new hP), hq'⟩
        · rw [if_neg hn] at hq
          have hn' : isName (.str (mkS (nameL l))) = false := by simpa [isName] using hn
          simp_arith [hn']
          rw [rdSs_cons]
          simp_arith []
          exact ⟨C, Sub.refl, hq⟩
    · have h1 : (restL l).take 1 ≠ [40] := by
        cases q : restL l with
        | nil => simp
        | cons c r' => intro z; simp at z; exact ho ⟨r', by rw [q, z]⟩
      rw [if_pos (by simp [h1])]
      rw [rdSs_cons]
      rw [rdP_item (fun q z => ho ⟨q, z⟩)] at hq
      simp_arith []
      rw [oInF_str3, item_in]
      cases hi : itemOf (nameL l) with
      | none =>
        rw [hi] at hq
        simp_arith [Option.isSome]
        exact ⟨C, Sub.refl, hq⟩
      | some i =>
        rw [hi] at hq
        obtain ⟨c, c1, c2⟩ := item_digit hi
        simp_arith [Option.isSome]
        rw [Option.map_some, rdD_item, hE] at hq
        exact ⟨nl, c, c1, _, _, rfl, c2, by show 1 ≤ 640; decide, C, Sub.refl, hq⟩
theorem sizes_of_ok {n : Nat} {t : T} {q : Int × Int} {C : CH} {Q : Kv} {E : Kx} (ho : okT t = true) (hm : meas 4 t = some q) (hq : Q (.tup [.int q.1, .int q.2]) C) : W (n + 7) i_sizes_of [t.d] C Q E := by
  rw [W_sizes_of]
  unfold b_sizes_of
  simp_arith! [GG_call]
  refine measured_ok 4 n t C _ _ ho ?_
  rw [hm]
  simp_arith! [measD]
  exact ⟨C, Sub.refl, hq⟩
theorem highest_ok {n : Nat} {t : T} {q : Int × Int} {C : CH} {Q : Kv} {E : Kx} (ho : okT t = true) (hm : meas 4 t = some q) (hq : Q (.int q.2) C) : W (n + 8) i_highest [t.d] C Q E := by
  rw [W_highest]
  unfold b_highest
  simp_arith! [GG_call]
  refine sizes_of_ok (n := n) ho hm ?_
  simp_arith! []
  exact ⟨C, Sub.refl, hq⟩
theorem tl_app (a b : Str) : (a ++ b).cps.toList = a.cps.toList ++ b.cps.toList := TL.tl_append a b
theorem app_mk (a b : List Nat) : mkS a ++ mkS b = mkS (a ++ b) := (mkS_tl _).symm.trans (congrArg mkS (by rw [tl_app, tl_mkS, tl_mkS]))
theorem join_mk (a : List Nat) (ys : List (List Nat)) : Txt.join (mkS a) (ys.map mkS) = mkS (TL.joinL a ys) := by
  rw [TL.join_eq]
  refine (mkS_tl _).symm.trans (congrArg mkS ?_)
  have := TL.tl_join (mkS a) (ys.map mkS)
  rw [List.map_map] at this
  have e : List.map (TL.tl ∘ mkS) ys = ys := by
    conv => rhs; rw [← List.map_id ys]
    exact List.map_congr_left fun x _ => tl_mkS x
  rw [e, show TL.tl (mkS a) = a from tl_mkS a] at this
  exact this
theorem read_value_ok {n : Nat} {z : Str} {C : CH} {Q : Kv} {E : Kx} (hz : z.length ≤ sizeLine) (so : PyData.strOk z = true) (hS : ∀ v, rdP 4 z.cps.toList = some (v, []) → Q v.t.d C)
    (hF : (∀ v, rdP 4 z.cps.toList ≠ some (v, [])) → E ⟨c_NoText, []⟩ C) : W (n + 7) i_read_value [.str z] C Q E := by
  have hl := len_cps z
  rw [W_read_value]
  unfold b_read_value
  rw [rdSs_cons]
  simp_arith [GG_kit, GG_call]
  refine read_at_ok 4 n 0 z C _ _ hz so (Nat.zero_le _) ?_
  rw [List.drop_zero]
  cases hr : rdP 4 z.cps.toList with
  | none =>
    rw [rdD, rdSs_cons]
    simp_arith []
    rw [rdSs_cons]
    simp_arith []
    exact ⟨C, Sub.refl, hF fun v e => by rw [hr] at e; cases e⟩
  | some vq =>
    obtain ⟨v, q⟩ := vq
    obtain ⟨e1, _⟩ := rdP_sound _ _ _ _ hr
    have l1 : z.length = (tx v).length + q.length := by rw [hl, e1, List.length_append]
    rw [rdD, rdSs_cons]
    simp_arith []
    refine ⟨hz, ?_⟩
    by_cases hq : q = []
    · subst hq
      have ee : ((z.length - ([] : List Nat).length : Nat) : Int) = ((z.length : Nat) : Int) := by simp
      rw [ee]
      simp_arith []
      rw [rdSs_cons]
      simp_arith []
      exact ⟨C, Sub.refl, hS v hr⟩
    · have ee : ¬ ((z.length - q.length : Nat) : Int) = ((z.length : Nat) : Int) := by
        have : 0 < q.length := List.length_pos_iff.mpr hq
        omega
      rw [if_pos (by simp [ee])]
      rw [rdSs_cons]
      simp_arith []
      exact ⟨C, Sub.refl, hF fun w e => by rw [hr] at e; cases e; exact hq rfl⟩
theorem joinL1 (s a : List Nat) : TL.joinL s [a] = a := rfl
theorem joinL2 (s a b : List Nat) : TL.joinL s [a, b] = a ++ (s ++ b) := rfl
theorem oJoin_mk {C : CH} {p : Addr} {s : List Nat} {ys : List (List Nat)} {Q : Kv} (h : C p = some (.lst (ys.map fun y => D.str (mkS y)))) (hl : (ys.map (·.length)).sum + ys.length * s.length ≤ 16777216) (q : Q (.str (mkS (TL.joinL s ys))) C) : oJoin (.str (mkS s)) [.ref p] C Q := by
  refine ⟨mkS s, .ref p, ys.map mkS, rfl, rfl, .inr (.inr ⟨p, rfl, ?_⟩), ?_, by rw [join_mk]; exact q⟩
  · rw [List.map_map]; exact h
  · rw [List.map_map, List.length_map, mkS_len]
    have e : List.map ((fun x => x.length) ∘ mkS) ys = ys.map (·.length) := List.map_congr_left fun x _ => mkS_len x
    rw [e]; exact hl
theorem app_r (z : Str) (l : List Nat) : z ++ mkS l = mkS (z.cps.toList ++ l) := (mkS_tl _).symm.trans (congrArg mkS (by rw [tl_app, tl_mkS]))
theorem big5 : 100000 ≤ sizeLine := by decide
theorem item_str {i : Int} (h1 : 1 ≤ i) (h3 : i ≤ 3) : i.natAbs.log2 < 1920 ∧ (Str.empty ++ Str.ofString "x").length ≤ sizeLine ∧ (Str.empty ++ Str.ofString "x" ++ Str.ofString (toString i)).length ≤ sizeLine ∧ Str.empty ++ Str.ofString "x" ++ Str.ofString (toString i) = mkS (tx (.item i)) := by
  have h : i = 1 ∨ i = 2 ∨ i = 3 := by omega
  rcases h with rfl | rfl | rfl
  · refine ⟨by decide +kernel, by decide +kernel, by decide +kernel, by decide +kernel⟩
  · refine ⟨by decide +kernel, by decide +kernel, by decide +kernel, by decide +kernel⟩
  · refine ⟨by decide +kernel, by decide +kernel, by decide +kernel, by decide +kernel⟩
theorem pow8 {r : Nat} (h : r ≤ 8) : 2 ^ (r + 1) ≤ 512 := Nat.le_trans (Nat.pow_le_pow_right (by decide) (show r + 1 ≤ 9 by omega)) (by decide)
theorem text_of_ok : ∀ (r n : Nat) (v : Vv) (C : CH) (Q : Kv) (E : Kx), Good r v → r ≤ 8 → Q (.str (mkS (tx v))) C → W (n + r + 2) i_text_of [v.t.d] C Q E
  | r, n, .item i, C, Q, E, g, hr, hq => by
    obtain ⟨h1, h3⟩ := good_item.mp g
    obtain ⟨a1, a2, a3, a4⟩ := item_str h1 h3
    rw [W_text_of]
    unfold b_text_of
    rw [rdSs_cons]
    simp_arith [GG_call]
    refine is_number_ok (t := .int i) ?_
    simp_arith [isNum]
    rw [rdSs_cons]
    simp_arith [cFst, cJs, cFmt, Vv.t, T.d]
    refine ⟨a2, a1, a3, C, Sub.refl, ?_⟩
    rw [← a4] at hq
    exact hq
  | r, n, .app1 z a, C, Q, E, g, hr, hq => by
    have big := big5
    have p8 := pow8 hr
    have ts := tx_short g
    obtain ⟨gz, k, rfl, ga⟩ := good_app1.mp g
    have z8 := gz.2.1
    have hlz := len_cps z
    rw [W_text_of]
    unfold b_text_of
    rw [rdSs_cons]
    simp_arith [GG_call]
    refine is_number_ok (t := (Vv.app1 z a).t) ?_
    simp_arith [isNum, Vv.t]
    rw [rdSs_cons]
    simp_arith [T.d, T.ds, GG_call, cLc, iSeq, lcL, wipe3, cutD_tail, cYes]
    rw [s_open, s_close, s_comma, app_r]
    have lt : (z.cps.toList ++ 40 :: (tx a ++ [41])).length ≤ 14 * 2 ^ (k + 1 + 1) := ts
    simp only [List.length_append, List.length_cons, List.length_nil] at lt
    refine ⟨by rw [mkS_len]; show z.length + 1 ≤ sizeLine; omega, ⟨_, rfl⟩, text_of_ok k n a C _ _ ga (by omega) ?_⟩
    intro p hp
    refine oJoin_mk (ys := [tx a]) cup_same (by simp; omega) ?_
    rw [joinL1]
    simp_arith [app_mk, mkS_len]
    refine ⟨by simp only [List.length_append, List.length_cons, List.length_nil]; omega, by simp only [List.length_append, List.length_cons, List.length_nil]; omega, C, sub_new hp, ?_⟩
    have e : tx (.app1 z a) = z.cps.toList ++ [40] ++ tx a ++ [41] := by simp [tx]
    rw [e] at hq
    exact hq
  | r, n, .app2 z a b, C, Q, E, g, hr, hq => by
    have big := big5
    have p8 := pow8 hr
    have ts := tx_short g
    obtain ⟨gz, k, rfl, ga, gb⟩ := good_app2.mp g
    have z8 := gz.2.1
    have hlz := len_cps z
    rw [W_text_of]
    unfold b_text_of
    rw [rdSs_cons]
    simp_arith [GG_call]
    refine is_number_ok (t := (Vv.app2 z a b).t) ?_
    simp_arith [isNum, Vv.t]
    rw [rdSs_cons]
    simp_arith [T.d, T.ds, GG_call, cLc, iSeq, lcL, wipe3, cutD_tail, cYes]
    rw [s_open, s_close, s_comma, app_r]
    have lt : (z.cps.toList ++ 40 :: (tx a ++ (44 :: 32 :: (tx b ++ [41])))).length ≤ 14 * 2 ^ (k + 1 + 1) := ts
    simp only [List.length_append, List.length_cons, List.length_nil] at lt
    refine ⟨by rw [mkS_len]; show z.length + 1 ≤ sizeLine; omega, ⟨_, rfl⟩, text_of_ok k n a C _ _ ga (by omega) ?_⟩
    refine text_of_ok k n b C _ _ gb (by omega) ?_
    refine ⟨by simp only [List.nil_append, List.length_append, List.length_cons, List.length_nil]; omega, ?_⟩
    intro p hp
    refine oJoin_mk (ys := [tx a, tx b]) cup_same (by simp; omega) ?_
    rw [joinL2]
    simp_arith [app_mk, mkS_len]
    refine ⟨by simp only [List.length_append, List.length_cons, List.length_nil]; omega, by simp only [List.length_append, List.length_cons, List.length_nil]; omega, C, sub_new hp, ?_⟩
    have e : tx (.app2 z a b) = z.cps.toList ++ [40] ++ (tx a ++ ([44, 32] ++ tx b)) ++ [41] := by simp [tx]
    rw [e] at hq
    exact hq
theorem value_text_ok {n : Nat} {v : Vv} {C : CH} {Q : Kv} {E : Kx} (g : Good 4 v) (hq : Q (.str (mkS (tx v))) C) : W (n + 10) i_value_text [v.t.d] C Q E := by
  have m : meas 4 v.t = some (v.h, v.top) := meas_vv 4 v g.1 g.2.2 g.2.1
  rw [W_value_text]
  unfold b_value_text
  rw [rdSs_cons]
  simp_arith [GG_call]
  rw [W_need_value]
  unfold b_need_value
  rw [rdSs_cons]
  simp_arith [GG_call]
  refine highest_ok (n := n) (ok_vv v g.1).1 m ?_
  have ht := g.2.1
  have : ¬ 3 < v.top := by omega
  simp_arith []
  rw [if_neg (by simpa using ht)]
  refine ⟨C, Sub.refl, ?_⟩
  rw [rdSs_cons]
  simp_arith [GG_call]
  exact text_of_ok 4 (n + 3) v C _ _ g (by decide) ⟨C, Sub.refl, hq⟩
noncomputable def side (c : Nat) : Int := if c = 40 then 1 else if c = 41 then -1 else 0
/-- the pieces ahead of the last one, and the last one -/
noncomputable def lp (mark : List Nat) : Nat → List Nat → Int → List Nat → List (List Nat) × List Nat
  | 0, l, _, cur => ([], cur ++ l)
  | m + 1, l, d, cur => match l with
    | [] => ([], cur)
    | c :: r => if d = 0 ∧ mark.isPrefixOf (c :: r) = true then ((cur :: (lp mark m ((c :: r).drop mark.length) 0 []).1), (lp mark m ((c :: r).drop mark.length) 0 []).2)
      else lp mark m r (d + side c) (cur ++ [c])
/-- a text that is passed without a mark, from one depth to another -/
inductive Scan (mark : List Nat) : Int → List Nat → List Nat → Int → Prop
  | nil {d : Int} {r : List Nat} : Scan mark d [] r d
  | cons {d d' : Int} {c : Nat} {l r : List Nat} (h : d ≠ 0 ∨ mark.isPrefixOf (c :: (l ++ r)) = false) (t : Scan mark (d + side c) l r d') : Scan mark d (c :: l) r d'
theorem Scan.append {mark : List Nat} {d d1 d2 : Int} {a b r : List Nat} (h1 : Scan mark d a (b ++ r) d1) (h2 : Scan mark d1 b r d2) : Scan mark d (a ++ b) r d2 := by
  generalize hr : b ++ r = br at h1
  induction h1 with
  | nil => exact h2
  | @cons d d' c l r' h t ih =>
    subst hr
    refine .cons ?_ (ih h2 rfl)
    show d ≠ 0 ∨ mark.isPrefixOf (c :: ((l ++ b) ++ r)) = false
    rw [List.append_assoc]
    exact h
theorem lp_scan {mark : List Nat} {d d' : Int} {l r : List Nat} (h : Scan mark d l r d') : ∀ (m : Nat) (cur : List Nat), lp mark (m + l.length) (l ++ r) d cur = lp mark m r d' (cur ++ l) := by
  induction h with
  | nil => intro m cur; simp
  | @cons d d' c l r h t ih =>
    intro m cur
    rw [List.length_cons, ← Nat.add_assoc, List.cons_append, lp]
    rw [if_neg]
    · rw [ih, List.append_assoc]; rfl
    · rintro ⟨h1, h2⟩
      rcases h with h | h
      · exact h h1
      · rw [h] at h2; cases h2
theorem lp_end {mark : List Nat} {d d' : Int} {l : List Nat} (h : Scan mark d l [] d') {m : Nat} (hm : l.length ≤ m) (cur : List Nat) : lp mark m l d cur = ([], cur ++ l) := by
  obtain ⟨k, rfl⟩ : ∃ k, m = k + l.length := ⟨m - l.length, by omega⟩
  have := lp_scan h k cur
  rw [List.append_nil] at this
  rw [this]
  cases k with
  | zero => rw [lp, List.append_nil]
  | succ k => rw [lp]
theorem lp_mark {mark r : List Nat} (hm : mark ≠ []) (m : Nat) (cur : List Nat) : lp mark (m + 1) (mark ++ r) 0 cur = (cur :: (lp mark m r 0 []).1, (lp mark m r 0 []).2) := by
  cases mark with
  | nil => exact absurd rfl hm
  | cons c t =>
    rw [List.cons_append, lp, if_pos]
    · rw [← List.cons_append, List.drop_left]
    · exact ⟨rfl, by rw [← List.cons_append, List.isPrefixOf_iff_prefix]; exact List.prefix_append _ _⟩
/-- texts with marks between them come apart again -/
theorem lp_join {mark : List Nat} (hm : mark ≠ []) : ∀ (ys : List (List Nat)) (y : List Nat), (∀ x ∈ ys ++ [y], ∀ r, Scan mark 0 x r 0) → ∀ m, (TL.joinL mark (ys ++ [y])).length ≤ m → lp mark m (TL.joinL mark (ys ++ [y])) 0 [] = (ys, y)
  | [], y, h, m, hl => by
    have := lp_end (h y (by simp) []) (m := m) (by simpa [TL.joinL] using hl) []
    rw [List.nil_append] at this ⊢
    exact this
  | x :: ys, y, h, m, hl => by
    have e : TL.joinL mark (x :: ys ++ [y]) = x ++ (mark ++ TL.joinL mark (ys ++ [y])) := by
      cases ys with
      | nil => rfl
      | cons z zs => rfl
    have hp : 1 ≤ mark.length := List.length_pos_iff.mpr hm
    rw [e] at hl ⊢
    rw [List.length_append, List.length_append] at hl
    obtain ⟨k, rfl⟩ : ∃ k, m = (k + 1) + x.length := ⟨m - x.length - 1, by omega⟩
    rw [lp_scan (h x (by simp) _) (k + 1) [], List.nil_append, lp_mark hm, lp_join hm ys y (fun z hz => h z (List.mem_cons_of_mem _ hz)) k (by omega)]
/-- within parentheses nothing is a mark -/
noncomputable def Bal (l : List Nat) : Prop := ∀ (mark : List Nat) (d : Int) (r : List Nat), 1 ≤ d → Scan mark d l r d
theorem Bal.app {a b : List Nat} (ha : Bal a) (hb : Bal b) : Bal (a ++ b) := fun mark d r hd => (ha mark d _ hd).append (hb mark d r hd)
theorem bal_flat : ∀ {l : List Nat}, (∀ c ∈ l, c ≠ 40 ∧ c ≠ 41) → Bal l
  | [], _ => fun mark d r hd => .nil
  | c :: l, h => fun mark d r hd => .cons (.inl (by omega)) (by
      have hc := h c List.mem_cons_self
      have e : d + side c = d := by unfold side; rw [if_neg hc.1, if_neg hc.2]; omega
      rw [e]
      exact bal_flat (fun x hx => h x (List.mem_cons_of_mem _ hx)) mark d r hd)
theorem Bal.wrap {l : List Nat} (h : Bal l) : Bal (40 :: (l ++ [41])) := fun mark d r hd =>
  .cons (.inl (by omega)) ((h mark (d + 1) _ (by omega)).append (.cons (.inl (by omega)) (by
    have e : d + 1 + side 41 = d := by show d + 1 + (-1) = d; omega
    rw [e]; exact .nil)))
/-- in parentheses, at depth 0 -/
theorem scan_wrap {mark l r : List Nat} (h : Bal l) (hm : mark.head? ≠ some 40) (hn : mark ≠ []) : Scan mark 0 (40 :: (l ++ [41])) r 0 := by
  refine .cons (.inr ?_) ((h mark (0 + 1) _ (by omega)).append (.cons (.inl (by omega)) .nil))
  cases mark with
  | nil => exact absurd rfl hn
  | cons a t =>
    rw [List.isPrefixOf]
    have : (a == 40) = false := by
      rw [beq_eq_false_iff_ne]
      intro e
      exact hm (by rw [e]; rfl)
    rw [this]; rfl
/-- signs that begin no mark -/
theorem scan_flat {mark : List Nat} {a : Nat} {t : List Nat} (hm : mark = a :: t) : ∀ {l r : List Nat}, (∀ c ∈ l, c ≠ 40 ∧ c ≠ 41 ∧ c ≠ a) → Scan mark 0 l r 0
  | [], r, _ => .nil
  | c :: l, r, h => .cons (.inr (by
      have hc := h c List.mem_cons_self
      rw [hm, List.isPrefixOf]
      have : (a == c) = false := by rw [beq_eq_false_iff_ne]; exact fun e => hc.2.2 e.symm
      rw [this]; rfl)) (by
      have hc := h c List.mem_cons_self
      have e : (0 : Int) + side c = 0 := by unfold side; rw [if_neg hc.1, if_neg hc.2.1]; omega
      rw [e]
      exact scan_flat hm fun x hx => h x (List.mem_cons_of_mem _ hx))
/-- a word and a blank do not begin a name and a parenthesis -/
theorem not_begun : ∀ {w z s : List Nat}, (∀ c ∈ w, sgn c = true) → (∀ c ∈ z, sgn c = true) → (w ++ [32]).isPrefixOf (z ++ 40 :: s) = false
  | [], [], s, _, _ => by simp [List.isPrefixOf]
  | [], c :: z, s, _, hz => by
    have := hz c List.mem_cons_self
    have e : (32 == c) = false := by
      rw [beq_eq_false_iff_ne]; intro e; subst e; rw [sg32] at this; cases this
    simp only [List.nil_append, List.cons_append, List.isPrefixOf, e, Bool.false_and]
  | a :: w, [], s, hw, _ => by
    have := hw a List.mem_cons_self
    have e : (a == 40) = false := by
      rw [beq_eq_false_iff_ne]; intro e; subst e; rw [sg40] at this; cases this
    simp only [List.nil_append, List.cons_append, List.isPrefixOf, e, Bool.false_and]
  | a :: w, c :: z, s, hw, hz => by
    have ih := not_begun (s := s) (fun x hx => hw x (List.mem_cons_of_mem _ hx)) (fun x hx => hz x (List.mem_cons_of_mem _ hx))
    rw [List.cons_append, List.cons_append, List.isPrefixOf, ih, Bool.and_false]
theorem is_value_ok {n : Nat} {t : T} {C : CH} {Q : Kv} {E : Kx} (ho : okT t = true) (hq : Q (.bl (meas 4 t).isSome) C) : W (n + 7) i_is_value [t.d] C Q E := by
  rw [W_is_value]
  unfold b_is_value
  simp_arith! [GG_call]
  refine measured_ok 4 n t C _ _ ho ?_
  cases h : meas 4 t with
  | none => rw [h] at hq; exact ⟨C, Sub.refl, hq⟩
  | some q => rw [h] at hq; exact ⟨C, Sub.refl, hq⟩
noncomputable def isTup : T → Bool
  | .tup _ => true
  | _ => false
theorem is_term_ok {n : Nat} {t : T} {C : CH} {Q : Kv} {E : Kx} (ho : okT t = true) (hq : Q (.bl (isTup t && (meas 4 t).isSome)) C) : W (n + 8) i_is_term [t.d] C Q E := by
  rw [W_is_term]
  unfold b_is_term
  cases t with
  | tup xs =>
    simp_arith! [T.d, GG_kit, GG_call]
    refine is_value_ok (n := n) (t := .tup xs) ho ?_
    exact ⟨C, Sub.refl, hq⟩
  | _ => simp_arith! [T.d, GG_kit]; exact ⟨C, Sub.refl, hq⟩
theorem may_use_ok {n : Nat} {v : T} {level : Int} {called : Kn} {kd : D} {C : CH} {Q : Kv} {E : Kx} (hk : KnAt C called kd) (ho : okT v = true) (hq : Q (.bl (mayUse v level called)) C) : W (n + 9) i_may_useC [v.d, .int level, kd] C Q E := by
  rw [W_may_useC]
  unfold b_may_useC
  simp_arith! [GG_call]
  refine is_value_ok (n := n + 1) ho ?_
  unfold mayUse at hq
  cases hm : meas 4 v with
  | none =>
    rw [hm] at hq
    simp_arith! [Option.isSome]
    exact ⟨C, Sub.refl, hq⟩
  | some q =>
    rw [hm] at hq
    simp_arith! [Option.isSome]
    refine is_number_ok (n := n + 7) ?_
    by_cases hn : isNum v = true
    · rw [hn] at hq ⊢
      simp_arith! []
      cases v with
      | int i => simp_arith! [T.d]; exact ⟨C, Sub.refl, hq⟩
      | _ => cases hn
    · simp only [Bool.not_eq_true] at hn
      rw [hn] at hq ⊢
      simp_arith! []
      cases hk with
      | num k =>
        refine is_number_ok (n := n + 7) (t := .int k) ?_
        simp_arith! [isNum]
        refine highest_ok (n := n) ho hm ?_
        simp_arith! []
        exact ⟨C, Sub.refl, hq⟩
      | lst hp hv =>
        refine is_number_ref (n := n + 7) hp ?_
        simp_arith! []
        have := meas_depth 4 v q hm
        exact inD_ts hp hv ho (by omega) ⟨C, Sub.refl, hq⟩
noncomputable def mayCall (t : T) (level : Int) (called : Kn) : Bool := match t with
  | .tup (h :: xs) => (meas 4 (.tup (h :: xs))).isSome && xs.all fun v => mayUse v level called
  | _ => false
theorem may_call_ok {n : Nat} {t : T} {level : Int} {called : Kn} {kd : D} {C : CH} {Q : Kv} {E : Kx} (hk : KnAt C called kd) (ho : okT t = true) (hl : ∀ xs, t = .tup xs → xs.length ≤ sizeLine) (hq : Q (.bl (mayCall t level called)) C) : W (n + 10) i_may_call [t.d, .int level, kd] C Q E := by
  rw [W_may_call]
  unfold b_may_call
  simp_arith! [GG_call]
  refine is_term_ok (n := n + 1) ho ?_
  cases t with
  | tup xs =>
    cases xs with
    | nil => simp_arith! [isTup, meas, Option.isSome, Bool.true_and]; exact ⟨C, Sub.refl, hq⟩
    | cons h xs =>
      simp only [mayCall] at hq
      cases hm : meas 4 (.tup (h :: xs)) with
      | none =>
        rw [hm] at hq
        simp_arith! [isTup, Option.isSome, Bool.true_and]
        exact ⟨C, Sub.refl, hq⟩
      | some q =>
        rw [hm] at hq
        simp_arith! [isTup, Option.isSome, Bool.true_and, cLc, iSeq, T.d, T.ds, cutD_tail]
        have hl' := hl _ rfl
        simp only [List.length_cons] at hl'
        simp only [Option.isSome, Bool.true_and] at hq
        refine lcL_T (fun v => .bl (mayUse v level called)) trivial _ (fun d hd => ?_) (by omega) ?_
        · refine ⟨_, rfl, fun Q' hQ => ?_⟩
          simp_arith! [wipe3, GG_call]
          refine may_use_ok (n := n) hk ?_ hQ
          simp only [okT, okTs, Bool.and_eq_true] at ho
          exact okTs_mem ho.2 hd
        · intro p hp
          refine oAll_new (bs := xs.map fun v => mayUse v level called) (by rw [List.map_map]; rfl) ⟨C, sub_new hp, ?_⟩
          simpa [List.all_map, Function.comp_def] using hq
  | _ => simp_arith! [isTup, Bool.false_and]; exact ⟨C, Sub.refl, hq⟩
noncomputable def shaped : T → Bool
  | .tup [.str w, .tup ps] => (decide (w = ("and" : Str)) || decide (w = ("or" : Str))) && decide (1 < ps.length)
  | .tup [.str w, _, y] => !(decide (w = ("and" : Str)) || decide (w = ("or" : Str))) && (if w = ("ask" : Str) then (match y with | .bl _ => true | _ => false) else decide (w = ("any" : Str)) || decide (w = ("all" : Str)))
  | _ => false
theorem shaped_cases {t : T} (h : shaped t = true) : (∃ w ps, t = .tup [.str w, .tup ps] ∧ (decide (w = ("and" : Str)) || decide (w = ("or" : Str))) = true ∧ 1 < ps.length) ∨
    ∃ w x y, t = .tup [.str w, x, y] ∧ (decide (w = ("and" : Str)) || decide (w = ("or" : Str))) = false ∧ ((w = ("ask" : Str) ∧ ∃ b, y = .bl b) ∨ (w ≠ ("ask" : Str) ∧ (w = ("any" : Str) ∨ w = ("all" : Str)))) := by
  unfold shaped at h
  split at h
  · rename_i w ps
    simp only [Bool.and_eq_true, decide_eq_true_eq] at h
    exact .inl ⟨w, ps, rfl, h.1, h.2⟩
  · rename_i w x y
    simp only [Bool.and_eq_true, Bool.not_eq_true'] at h
    refine .inr ⟨w, x, y, rfl, h.1, ?_⟩
    have h2 := h.2
    by_cases ha : w = ("ask" : Str)
    · rw [if_pos ha] at h2
      left
      refine ⟨ha, ?_⟩
      cases y with
      | bl b => exact ⟨b, rfl⟩
      | _ => cases h2
    · rw [if_neg ha] at h2
      right
      exact ⟨ha, by simpa using h2⟩
  · cases h
theorem shaped_long {w : Str} {a b c : T} {l : List T} : shaped (.tup (.str w :: a :: b :: c :: l)) = false := by cases a <;> rfl
theorem so_ask : PyData.strOk (Str.ofString "ask") = true := by decide +kernel
theorem is_shaped_ok {n : Nat} {t : T} {C : CH} {Q : Kv} {E : Kx} (ho : okT t = true) (hq : Q (.bl (shaped t)) C) : W (n + 1) i_is_shaped [t.d] C Q E := by
  rw [W_is_shaped]
  unfold b_is_shaped
  cases t with
  | tup xs =>
    match xs, ho, hq with
    | [], ho, hq => rw [rdSs_cons]; simp_arith [T.d, T.ds, GG_kit]; rw [rdSs_cons]; simp_arith []; exact ⟨C, Sub.refl, hq⟩
    | [x], ho, hq => rw [rdSs_cons]; simp_arith [T.d, T.ds, GG_kit]; rw [rdSs_cons]; simp_arith []; exact ⟨C, Sub.refl, by cases x <;> exact hq⟩
    | x :: a :: r, ho, hq =>
      have e2 : (((r.length + 1 + 1 : Nat) : Int) < 2) = False := by simp; omega
      cases x with
      | str w =>
        have hw : PyData.strOk w = true := by
          simp only [okT, okTs, Bool.and_eq_true] at ho
          exact ho.1.2
        rw [rdSs_cons]
        simp_arith [T.d, T.ds, GG_kit, e2, T.ds_length]
        rw [rdSs_cons]
        by_cases h1 : w = Str.ofString "and" ∨ w = Str.ofString "or"
        · have h1' : (decide (w = Str.ofString "and") || decide (w = Str.ofString "or")) = true := by simpa using h1
          simp_arith [h1']
          rw [rdSs_cons]
          match r, e2, ho, hq with
          | [], e2, ho, hq =>
            cases a with
            | tup ps =>
              simp_arith [T.d, T.ds, GG_kit, T.ds_length]
              simp only [shaped, h1', Bool.true_and] at hq
              refine ⟨C, Sub.refl, ?_⟩
              have e3 : ((1 : Int) < (ps.length : Int)) = (1 < ps.length) := by simp; omega
              simp only [e3]
              exact hq
            | _ => simp_arith [T.d, T.ds, GG_kit, T.ds_length]; exact ⟨C, Sub.refl, hq⟩
          | b :: l, e2, ho, hq =>
            have e3 : (((l.length + 1 + 1 + 1 : Nat) : Int) = 2) = False := by simp; omega
            simp_arith [T.ds, T.ds_length, e3, decide_false]
            refine ⟨C, Sub.refl, ?_⟩
            cases l with
            | nil => simp only [shaped, h1', Bool.not_true, Bool.false_and] at hq; exact hq
            | cons c l => rw [shaped_long] at hq; exact hq
        · have h1' : (decide (w = Str.ofString "and") || decide (w = Str.ofString "or")) = false := by simpa using h1
          simp_arith [h1']
          rw [rdSs_cons]
          simp_arith [oEqN_strI hw so_ask]
          by_cases h2 : w = Str.ofString "ask"
          · rw [if_pos (decide_eq_true h2), rdSs_cons]
            match r, e2, ho, hq with
            | [], e2, ho, hq =>
              simp_arith [T.ds, T.ds_length]
              refine ⟨C, Sub.refl, ?_⟩
              cases a <;> first | exact hq | (simp only [shaped, h1', Bool.false_and] at hq; exact hq)
            | [b], e2, ho, hq =>
              simp_arith [T.ds, T.ds_length]
              simp only [shaped, h1', Bool.not_false, Bool.true_and] at hq
              cases b <;> simp_arith [T.d, GG_kit] <;> exact ⟨C, Sub.refl, by simpa [h2] using hq⟩
            | b :: c :: l, e2, ho, hq =>
              have e3 : (((l.length + 1 + 1 + 1 + 1 : Nat) : Int) = 3) = False := by simp; omega
              simp_arith [T.ds, T.ds_length, e3]
              rw [shaped_long] at hq
              exact ⟨C, Sub.refl, hq⟩
          · rw [if_neg (by simpa using h2), rdSs_cons]
            by_cases h3 : w = Str.ofString "any" ∨ w = Str.ofString "all"
            · have h3' : (decide (w = Str.ofString "any") || decide (w = Str.ofString "all")) = true := by simpa using h3
              simp_arith [h3', T.ds_length]
              refine ⟨C, Sub.refl, ?_⟩
              match r, e2, ho, hq with
              | [], e2, ho, hq => cases a <;> first | exact hq | (simp only [shaped, h1', Bool.false_and] at hq; exact hq)
              | [b], e2, ho, hq =>
                simp only [shaped, h1', Bool.not_false, Bool.true_and] at hq
                rw [if_neg h2, h3'] at hq
                exact hq
              | b :: c :: l, e2, ho, hq =>
                have e3 : (((l.length + 1 + 1 + 1 + 1 : Nat) : Int) = 3) = False := by simp; omega
                simp only [List.length_cons, e3, decide_false]
                rw [shaped_long] at hq
                exact hq
            · have h3' : (decide (w = Str.ofString "any") || decide (w = Str.ofString "all")) = false := by simpa using h3
              simp_arith [h3']
              refine ⟨C, Sub.refl, ?_⟩
              match r, e2, ho, hq with
              | [], e2, ho, hq => cases a <;> first | exact hq | (simp only [shaped, h1', Bool.false_and] at hq; exact hq)
              | [b], e2, ho, hq =>
                simp only [shaped, h1', Bool.not_false, Bool.true_and] at hq
                rw [if_neg h2, h3'] at hq
                exact hq
              | b :: c :: l, e2, ho, hq => rw [shaped_long] at hq; exact hq
      | _ => rw [rdSs_cons]; simp_arith [T.d, T.ds, GG_kit, e2, T.ds_length]; rw [rdSs_cons]; simp_arith []; exact ⟨C, Sub.refl, by cases r <;> exact hq⟩
  | _ => rw [rdSs_cons]; simp_arith [T.d, GG_kit]; rw [rdSs_cons]; simp_arith []; exact ⟨C, Sub.refl, hq⟩
noncomputable abbrev Job := T × Int × Int
noncomputable def condStep (j : Job) (count : Int) (known : Kn) : Option (List Job × Int) :=
  if j.2.2 > 100 ∨ j.2.1 > 3 ∨ shaped j.1 = false then none else match j.1 with
  | .tup [.str _, .tup ps] => some (ps.reverse.map fun p => (p, j.2.1, j.2.2 + 1), count)
  | .tup [.str w, x, y] => if mayCall x j.2.1 known = false then none else if w = ("ask" : Str) then some ([], count + 1) else some ([(y, j.2.1 + 1, j.2.2 + 1)], count)
  | _ => none
noncomputable def condLoop : Nat → List Job → Int → Kn → Option Bool
  | _, [], _, _ => some true
  | 0, _ :: _, _, _ => none
  | f + 1, j :: st, count, known => match condStep j count known with
    | none => some false
    | some r => if r.2 > 400 then some false else condLoop f (r.1 ++ st) r.2 known
noncomputable def jobD (j : Job) : D := .tup [j.1.d, .int j.2.1, .int j.2.2]
noncomputable def jobP (j : Job) : PyData := .tuple [j.1.p, .int j.2.1, .int j.2.2]
theorem jobSnap (C : CH) (j : Job) : Snap C (jobD j) (jobP j) := .tup (.cons (j.1.snap C) (.cons (.int _) (.cons (.int _) .nil)))
theorem jobSnaps (C : CH) : ∀ js : List Job, SnapL C (js.map jobD) (js.map jobP)
  | [] => .nil
  | j :: js => .cons (jobSnap C j) (jobSnaps C js)
noncomputable def okJob (j : Job) : Prop := okT j.1 = true ∧ j.1.p.depth ≤ 340
theorem deep_jobs : ∀ js : List Job, (∀ j ∈ js, okJob j) → PyData.canLayAll0 (js.map jobP) = true ∧ PyData.depthAll (js.map jobP) ≤ 341
  | [], _ => ⟨rfl, by decide⟩
  | j :: js, h => by
    obtain ⟨h1, h2⟩ := deep_jobs js fun j' hj => h j' (List.mem_cons_of_mem _ hj)
    obtain ⟨o1, o2⟩ := h j List.mem_cons_self
    constructor
    · simp only [List.map_cons, PyData.canLayAll0, Bool.and_eq_true]
      refine ⟨?_, h1⟩
      simp only [jobP, PyData.canLay0, PyData.canLayAll0, Bool.and_true]
      exact canLay_ok _ o1
    · simp only [List.map_cons, PyData.depthAll]
      have e : (jobP j).depth ≤ 341 := by
        simp only [jobP, PyData.depth, PyData.depthAll]
        omega
      omega
/-- line != [] -/
theorem line_ne {C : CH} {p r : Addr} {js : List Job} {Q : Kv} (hj : ∀ j ∈ js, okJob j) (h : C p = some (.lst (js.map jobD))) (h2 : C r = some (.lst [])) (q : Q (.bl (!js.isEmpty)) C) : oEqN not (.ref p) (.ref r) C Q := by
  obtain ⟨d1, d2⟩ := deep_jobs js hj
  refine ⟨.list (js.map jobP), .list [], .lst h (jobSnaps C js), .lst h2 .nil, ?_, by decide, ?_⟩
  · have e : (PyData.list (js.map jobP)).depth ≤ 350 := by
      show PyData.depthAll _ + 1 ≤ 350
      omega
    unfold deepOk
    rw [decide_eq_true e, Bool.and_true]
    exact d1
  · cases js with
    | nil => exact q
    | cons j js => exact q
noncomputable def condT : CE := .cmp .ne (.var 3) (.lst [])
noncomputable def condB : List CS := match b_is_condition with
  | [_, _, _, .whileS _ b, _] => b
  | _ => []
theorem size_pos (t : T) : 1 ≤ size t := by
  cases t <;> simp [size]
theorem sizes_len : ∀ ts : List T, ts.length ≤ sizes ts
  | [] => Nat.le_refl _
  | t :: ts => by
    have := size_pos t
    have := sizes_len ts
    simp only [List.length_cons, sizes]
    omega
theorem cond_body {n : Nat} {E : Kx} {C0 : CH} {p : Addr} {known : Kn} {kd : L3.D} {count : Int} {D : EndsC} {j : Job} {st : List Job} {x0 x1 x2 x6 x7 x8 x9 : Option L3.D} {C : CH} (hk : KnAt C0 known kd) (hp : C0 p = none) (oj : okJob j) (hs : Sub C0 C) (hc : C p = some (.lst ((j :: st).reverse.map jobD))) (hl : st.length + size j.1 + 2 ≤ sizeLine)
    (hF : (∀ r, condStep j count known = some r → r.2 > 400) → ∀ C', Sub C0 C' → D.rt (.bl false) C')
    (hK : ∀ r, condStep j count known = some r → ¬ r.2 > 400 → ∀ y6 y7 y8 C', Sub C0 C' → C' p = some (.lst ((r.1 ++ st).reverse.map jobD)) → D.nx [x0, x1, x2, some (.ref p), some (.int r.2), some kd, y6, y7, y8, x9] C') :
    rdSs (GG (n + 10)) (exN E) condB D [x0, x1, x2, some (.ref p), some (.int count), some kd, x6, x7, x8, x9] C := by
  have e1 : ((j :: st).reverse.map jobD) = st.reverse.map jobD ++ [jobD j] := by simp
  have e2 : ((j :: st).reverse.map jobD)[((j :: st).reverse.map jobD).length - 1]? = some (jobD j) := by rw [e1]; simp
  have e3 : ((j :: st).reverse.map jobD).dropLast = st.reverse.map jobD := by rw [e1]; simp
  simp only [condB, b_is_condition]
  rw [rdSs_cons]
  simp_arith []
  refine ⟨isLst_of hc, ?_⟩
  refine ⟨p, _, jobD j, rfl, rfl, hc, e2, ?_⟩
  rw [e3]
  obtain ⟨t, at_, nest⟩ := j
  simp_arith [jobD]
  have hs1 : Sub C0 (cup C p (.lst (st.reverse.map jobD))) := fun a o h => by
    rw [cup_ne (fun z => by rw [z, hp] at h; cases h)]
    exact hs a o h
  generalize hC1 : cup C p (.lst (st.reverse.map jobD)) = C1 at hs1
  have hc1 : C1 p = some (.lst (st.reverse.map jobD)) := by rw [← hC1]; exact cup_same
  rw [rdSs_cons]
  simp_arith [GG_call]
  by_cases hsh : nest > 100 ∨ at_ > 3 ∨ shaped t = false
  · have hf : ∀ C', Sub C0 C' → D.rt (.bl false) C' := hF fun r h => by
      simp only [condStep] at h
      rw [if_pos hsh] at h
      cases h
    by_cases h1 : 100 < nest
    · rw [if_pos (decide_eq_true h1), rdSs_cons]
      simp_arith []
      exact hf _ hs1
    · rw [if_neg (by simp [h1])]
      by_cases h2 : 3 < at_
      · rw [if_pos (decide_eq_true h2), rdSs_cons]
        simp_arith []
        exact hf _ hs1
      · rw [if_neg (by simp [h2])]
        have h3 : shaped t = false := by
          rcases hsh with h | h | h
          · exact absurd h h1
          · exact absurd h h2
          · exact h
        refine is_shaped_ok (n := n + 9) oj.1 ?_
        rw [h3]
        simp_arith []
        rw [rdSs_cons]
        simp_arith []
        exact hf _ hs1
  · have h1 : ¬ 100 < nest := fun h => hsh (.inl h)
    have h2 : ¬ 3 < at_ := fun h => hsh (.inr (.inl h))
    have h3 : shaped t = true := by
      cases h : shaped t with
      | true => rfl
      | false => exact absurd (.inr (.inr h)) hsh
    rw [if_neg (by simp [h1]), if_neg (by simp [h2])]
    refine is_shaped_ok (n := n + 9) oj.1 ?_
    rw [h3]
    simp_arith []
    rw [rdSs_cons]
    clear hC1
    obtain ⟨o1, o2⟩ := oj
    rcases shaped_cases h3 with ⟨w, ps, e, hw, hps⟩ | ⟨w, x, y, e, hw, hwy⟩
    · subst e
      simp only [size, sizes] at hl
      have hlen := sizes_len ps
      have hps1 : ps.length ≤ sizeLine := by omega
      have hcs : condStep (.tup [.str w, .tup ps], at_, nest) count known = some (ps.reverse.map fun p => (p, at_, nest + 1), count) := by
        unfold condStep
        exact if_neg hsh
      simp_arith [T.d, T.ds, hw]
      rw [rdSs_cons]
      simp_arith []
      refine ⟨isLst_of hc1, ?_⟩
      simp_arith! [cLc, iSeq]
      refine lcL_T (fun q => jobD (q, at_, nest + 1)) trivial ps (fun q _ => ⟨_, rfl, fun Q' hQ => ?_⟩) hps1 ?_
      · simp_arith! [wipe3]
        exact hQ
      · intro q hq
        refine ⟨p, _, _, _, rfl, rfl, cup_old hq hc1, .inr ⟨q, rfl, cup_same⟩, by simp only [List.length_map, List.length_reverse]; omega, ?_⟩
        have hs2 : Sub C0 (cup (cup C1 q (.lst (ps.map fun q => jobD (q, at_, nest + 1)))) p (.lst (st.reverse.map jobD ++ ps.map fun q => jobD (q, at_, nest + 1)))) := sub_at hp (hs1.trans (sub_new hq))
        dsimp only
        by_cases hc4 : 400 < count
        · rw [if_pos (decide_eq_true hc4)]
          exact hF (fun r h => by rw [hcs] at h; cases h; exact hc4) _ hs2
        · rw [if_neg (by simp [hc4])]
          refine hK _ hcs hc4 _ _ _ _ hs2 ?_
          rw [cup_same]
          simp [List.map_reverse, Function.comp_def]
    · subst e
      simp only [size, sizes] at hl
      have hx : okT x = true ∧ okT y = true := by
        simp only [okT, okTs, Bool.and_eq_true, Bool.and_true] at o1
        exact o1.2
      have hw1 : PyData.strOk w = true := by
        simp only [okT, okTs, Bool.and_eq_true, Bool.and_true] at o1
        exact o1.1.2
      simp_arith [T.d, T.ds, hw]
      rw [rdSs_cons]
      simp_arith [GG_call]
      refine may_call_ok (n := n) (hk.sub hs1) hx.1 (fun xs e => by subst e; have := sizes_len xs; simp only [size] at hl; omega) ?_
      cases hmc : mayCall x at_ known with
      | false =>
        have hcs : condStep (.tup [.str w, x, y], at_, nest) count known = none := by
          unfold condStep
          refine (if_neg hsh).trans ?_
          cases x <;> exact if_pos hmc
        simp_arith []
        rw [rdSs_cons]
        simp_arith []
        exact hF (fun r h => by rw [hcs] at h; cases h) _ hs1
      | true =>
        simp_arith []
        rw [rdSs_cons]
        simp_arith [oEqN_strI hw1 so_ask]
        have hcs : condStep (.tup [.str w, x, y], at_, nest) count known = if w = Str.ofString "ask" then some ([], count + 1) else some ([(y, at_ + 1, nest + 1)], count) := by
          unfold condStep
          refine (if_neg hsh).trans ?_
          cases x <;> exact if_neg (by rw [hmc]; decide)
        rcases hwy with ⟨ha, _⟩ | ⟨ha, _⟩
        · rw [if_pos ha] at hcs
          rw [if_pos (decide_eq_true ha)]
          simp_arith! []
          by_cases hc4 : 400 < count + 1
          · rw [if_pos (decide_eq_true hc4)]
            exact hF (fun r h => by rw [hcs] at h; cases h; exact hc4) _ hs1
          · rw [if_neg (by simp [hc4])]
            exact hK _ hcs hc4 _ _ _ _ hs1 hc1
        · rw [if_neg ha] at hcs
          rw [if_neg (by simp [ha])]
          simp_arith! []
          refine ⟨isLst_of hc1, p, _, _, rfl, rfl, hc1, by rw [List.length_map, List.length_reverse]; omega, ?_⟩
          have hs2 : Sub C0 (cup C1 p (.lst (st.reverse.map jobD ++ [jobD (y, at_ + 1, nest + 1)]))) := sub_at hp hs1
          dsimp only
          by_cases hc4 : 400 < count
          · rw [if_pos (decide_eq_true hc4)]
            exact hF (fun r h => by rw [hcs] at h; cases h; exact hc4) _ hs2
          · rw [if_neg (by simp [hc4])]
            refine hK _ hcs hc4 _ _ _ _ hs2 ?_
            rw [cup_same]
            simp [jobD]
noncomputable def wt : List Job → Nat
  | [] => 0
  | j :: js => size j.1 + wt js
theorem wt_len : ∀ js : List Job, js.length ≤ wt js
  | [] => Nat.le_refl _
  | j :: js => by
    have := size_pos j.1
    have := wt_len js
    simp only [List.length_cons, wt]
    omega
theorem wt_append : ∀ (a b : List Job), wt (a ++ b) = wt a + wt b
  | [], b => by simp [wt]
  | j :: a, b => by simp only [List.cons_append, wt, wt_append a b]; omega
theorem wt_map (at_ nest : Int) : ∀ ps : List T, wt (ps.map fun p => (p, at_, nest)) = sizes ps
  | [] => rfl
  | p :: ps => by simp only [List.map_cons, wt, sizes, wt_map at_ nest ps]
theorem sizes_append : ∀ (a b : List T), sizes (a ++ b) = sizes a + sizes b
  | [], b => by simp [sizes]
  | j :: a, b => by simp only [List.cons_append, sizes, sizes_append a b]; omega
theorem sizes_reverse : ∀ ps : List T, sizes ps.reverse = sizes ps
  | [] => rfl
  | p :: ps => by simp only [List.reverse_cons, sizes_append, sizes, sizes_reverse ps]; omega
theorem depth_mem : ∀ {ps : List T} {q : T}, q ∈ ps → q.p.depth ≤ PyData.depthAll (T.pl ps)
  | p :: ps, q, h => by
    simp only [T.pl, PyData.depthAll]
    rcases List.mem_cons.mp h with e | h
    · rw [e]; omega
    · have := depth_mem h; omega
theorem condStep_wt {j : Job} {count : Int} {known : Kn} {r : List Job × Int} (h : condStep j count known = some r) : wt r.1 < size j.1 ∧ (okJob j → ∀ k ∈ r.1, okJob k) := by
  obtain ⟨t, at_, nest⟩ := j
  unfold condStep at h
  split at h
  · cases h
  · split at h
    · rename_i w ps e
      simp only at e
      subst e
      cases h
      refine ⟨?_, fun ⟨o1, o2⟩ k hk => ?_⟩
      · show wt (List.map (fun p => (p, at_, nest + 1)) ps.reverse) < _
        rw [wt_map, sizes_reverse]
        simp only [size, sizes]
        omega
      · obtain ⟨q, hq, rfl⟩ := List.mem_map.mp hk
        simp only [okT, okTs, Bool.and_eq_true, Bool.and_true] at o1
        have hq' := List.mem_reverse.mp hq
        refine ⟨okTs_mem o1.2 hq', ?_⟩
        have := depth_mem hq'
        simp only [T.p, T.pl, PyData.depth, PyData.depthAll] at o2
        show q.p.depth ≤ 340
        omega
    · rename_i w x y e
      simp only at e
      subst e
      split at h
      · cases h
      · split at h
        · cases h
          refine ⟨?_, fun _ k hk => nomatch hk⟩
          simp only [wt, size, sizes]
          omega
        · cases h
          refine ⟨?_, fun ⟨o1, o2⟩ k hk => ?_⟩
          · simp only [wt, size, sizes]
            have := size_pos x
            omega
          · cases List.mem_singleton.mp hk
            simp only [okT, okTs, Bool.and_eq_true, Bool.and_true] at o1
            simp only [T.p, T.pl, PyData.depth, PyData.depthAll] at o2
            refine ⟨o1.2.2, ?_⟩
            show y.p.depth ≤ 340
            omega
    · cases h
theorem cond_loop {n : Nat} {E : Kx} {C0 : CH} {p : Addr} {known : Kn} {kd : L3.D} {Dd : EndsC} (hk : KnAt C0 known kd) (hp : C0 p = none) {b : Bool} (hT : b = true → ∀ σ C', Sub C0 C' → Dd.nx σ C') (hF : b = false → ∀ C', Sub C0 C' → Dd.rt (.bl false) C') :
    ∀ (fuel : Nat) (js : List Job) (count : Int) (x0 x1 x2 x6 x7 x8 x9 : Option L3.D) (C : CH), condLoop fuel js count known = some b → (∀ j ∈ js, okJob j) → wt js + 2 ≤ sizeLine → Sub C0 C → C p = some (.lst (js.reverse.map jobD)) →
      whileN (rdT (GG (n + 10)) (exN E) condT) (rdSs (GG (n + 10)) (exN E) condB) Dd (fuel + 1) [x0, x1, x2, some (.ref p), some (.int count), some kd, x6, x7, x8, x9] C := by
  intro fuel
  induction fuel with
  | zero =>
    intro js count x0 x1 x2 x6 x7 x8 x9 C hb ok hw hs hc
    cases js with
    | cons j js => cases hb
    | nil =>
      unfold whileN condT
      simp_arith! [oLst]
      intro r hr
      refine line_ne (js := []) (fun _ h => nomatch h) (cup_old hr hc) cup_same ?_
      simp_arith! [List.isEmpty]
      cases hb
      exact hT rfl _ _ (hs.trans (sub_new hr))
  | succ fuel ih =>
    intro js count x0 x1 x2 x6 x7 x8 x9 C hb ok hw hs hc
    cases js with
    | nil =>
      unfold whileN condT
      simp_arith! [oLst]
      intro r hr
      refine line_ne (js := []) (fun _ h => nomatch h) (cup_old hr hc) cup_same ?_
      simp_arith! [List.isEmpty]
      cases hb
      exact hT rfl _ _ (hs.trans (sub_new hr))
    | cons j st =>
      have ok' : ∀ j' ∈ (j :: st).reverse, okJob j' := fun j' h => ok j' (List.mem_reverse.mp h)
      have oj := ok j List.mem_cons_self
      have hst : st.length + size j.1 + 2 ≤ sizeLine := by
        have := wt_len st
        simp only [wt] at hw
        omega
      simp only [condLoop] at hb
      unfold whileN
      conv => rw [condT]
      simp_arith! [oLst]
      intro r hr
      refine line_ne ok' (cup_old hr hc) cup_same ?_
      have he : ((j :: st).reverse).isEmpty = false := by simp
      rw [he]
      simp_arith! []
      refine cond_body (st := st) hk hp oj (hs.trans (sub_new hr)) (cup_old hr hc) hst ?_ ?_
      · intro h C' hs'
        refine hF ?_ _ hs'
        cases hcs : condStep j count known with
        | none => rw [hcs] at hb; cases hb; rfl
        | some r => rw [hcs] at hb; simp only at hb; rw [if_pos (h r hcs)] at hb; cases hb; rfl
      · intro r hcs h4 y6 y7 y8 C' hs' hc'
        rw [hcs] at hb
        simp only at hb
        rw [if_neg h4] at hb
        obtain ⟨w1, w2⟩ := condStep_wt hcs
        refine ih _ _ _ _ _ _ _ _ _ _ hb (fun k hk => ?_) ?_ hs' hc'
        · rcases List.mem_append.mp hk with hk | hk
          · exact w2 oj k hk
          · exact ok k (List.mem_cons_of_mem _ hk)
        · rw [wt_append]
          simp only [wt] at hw
          omega
theorem is_condition_ok {n fuel : Nat} {t : T} {level : Int} {b : Bool} {C : CH} {Q : Kv} {E : Kx} (ho : okT t = true) (hd : t.p.depth ≤ 340) (hs : size t ≤ 1000000) (hb : condLoop fuel [(t, level, 1)] 0 level = some b) (hq : Q (.bl b) C) : W (n + 11) i_is_condition [t.d, .int level, .non] C Q E := by
  rw [W_is_condition]
  unfold b_is_condition
  rw [rdSs_cons]
  simp_arith [oLst]
  intro p hp
  rw [rdSs_cons]
  simp_arith []
  rw [rdSs_cons]
  simp_arith []
  rw [rdSs_cons, rdS_while]
  refine ⟨fuel + 1, ?_⟩
  refine cond_loop (b := b) (KnAt.num level) hp (fun e σ C' hs => ?_) (fun e C' hs => ?_) fuel [(t, level, 1)] 0 _ _ _ _ _ _ _ _ hb (fun j hj => ?_) (by simp only [wt]; have : 2000000 ≤ sizeLine := (by decide); omega) (sub_new hp) cup_same
  · simp_arith! []
    exact ⟨C, hs, by rw [← e]; exact hq⟩
  · exact ⟨C, hs, by rw [← e]; exact hq⟩
  · cases List.mem_singleton.mp hj
    exact ⟨ho, hd⟩
inductive Cn where
  | ask (t : T) (w : Bool) | con (a : Bool) (ps : List Cn) | qu (a : Bool) (t : T) (c : Cn)
noncomputable def cw (a : Bool) : Str := if a then "and" else "or"
noncomputable def qw (a : Bool) : Str := if a then "any" else "all"
mutual
noncomputable def Cn.t : Cn → T
  | .ask t w => .tup [.str "ask", t, .bl w]
  | .con a ps => .tup [.str (cw a), .tup (Cn.ts ps)]
  | .qu a t c => .tup [.str (qw a), t, c.t]
noncomputable def Cn.ts : List Cn → List T
  | [] => []
  | c :: cs => c.t :: Cn.ts cs
end
theorem Cn.ts_map : ∀ xs : List Cn, Cn.ts xs = xs.map Cn.t
  | [] => rfl
  | x :: xs => by rw [Cn.ts, Cn.ts_map xs, List.map_cons]
mutual
noncomputable def csize : Cn → Nat
  | .ask _ _ => 1
  | .con _ ps => 1 + csizes ps
  | .qu _ _ c => 1 + csize c
noncomputable def csizes : List Cn → Nat
  | [] => 0
  | c :: cs => csize c + csizes cs
end
mutual
noncomputable def ht : Cn → Nat
  | .ask _ _ => 1
  | .con _ ps => 1 + hts ps
  | .qu _ _ c => 1 + ht c
noncomputable def hts : List Cn → Nat
  | [] => 0
  | c :: cs => max (ht c) (hts cs)
end
theorem csize_pos (c : Cn) : 1 ≤ csize c := by cases c <;> simp [csize]
theorem csizes_len : ∀ cs : List Cn, cs.length ≤ csizes cs
  | [] => Nat.le_refl _
  | c :: cs => by
    have := csize_pos c
    have := csizes_len cs
    simp only [List.length_cons, csizes]
    omega
theorem qw_ask (a : Bool) : (qw a = Str.ofString "ask") = False := by cases a <;> simp [qw] <;> decide
theorem hts_mem : ∀ {cs : List Cn} {c : Cn}, c ∈ cs → ht c ≤ hts cs
  | d :: cs, c, h => by
    simp only [hts]
    rcases List.mem_cons.mp h with e | h
    · rw [e]; omega
    · have := hts_mem h; omega
theorem csizes_mem : ∀ {cs : List Cn} {c : Cn}, c ∈ cs → csize c ≤ csizes cs
  | d :: cs, c, h => by
    simp only [csizes]
    rcases List.mem_cons.mp h with e | h
    · rw [e]; omega
    · have := csizes_mem h; omega
theorem ds_ts (ps : List Cn) : T.ds (Cn.ts ps) = ps.map fun c => c.t.d := by
  rw [T.ds_map, Cn.ts_map, List.map_map]; rfl
theorem condLoop_total (known : Kn) : ∀ (fuel : Nat) (js : List Job) (count : Int), wt js ≤ fuel → ∃ b, condLoop fuel js count known = some b := by
  intro fuel
  induction fuel with
  | zero =>
    intro js count h
    cases js with
    | nil => exact ⟨_, rfl⟩
    | cons j js => have := size_pos j.1; simp only [wt] at h; omega
  | succ f ih =>
    intro js count h
    cases js with
    | nil => exact ⟨_, rfl⟩
    | cons j js =>
      simp only [condLoop]
      cases hc : condStep j count known with
      | none => exact ⟨_, rfl⟩
      | some r =>
        simp only
        by_cases h4 : r.2 > 400
        · rw [if_pos h4]; exact ⟨_, rfl⟩
        · rw [if_neg h4]
          refine ih _ _ ?_
          have := (condStep_wt hc).1
          rw [wt_append]
          simp only [wt] at h
          omega
/-- a condition at one of the levels 1, 2, 3 -/
noncomputable def isCondK (t : T) (level : Int) (kn : Kn) : Bool := (condLoop (size t) [(t, level, 1)] 0 kn).getD false
noncomputable def isCond (t : T) (level : Int) : Bool := isCondK t level level
theorem isCond_ok {n : Nat} {t : T} {level : Int} {C : CH} {Q : Kv} {E : Kx} (ho : okT t = true) (hd : t.p.depth ≤ 340) (hs : size t ≤ 1000000) (hq : Q (.bl (isCond t level)) C) : W (n + 11) i_is_condition [t.d, .int level, .non] C Q E := by
  obtain ⟨b, hb⟩ := condLoop_total level (size t) [(t, level, 1)] 0 (by simp [wt])
  refine is_condition_ok (b := b) ho hd hs hb ?_
  unfold isCond isCondK at hq
  rw [hb] at hq
  exact hq
noncomputable def stK (l c : Addr) (r t : Int) : List (L2.Key × D) := [(.inr "large", .ref l), (.inr "cells", .ref c), (.inr "rest", .int r), (.inr "turn", .int t)]
/-- the law's state stands at s, N draws are left; the rest of the heap is C0 -/
structure StAt (C0 C : CH) (s l c : Addr) (ls cs : List Int) (r t : Int) : Prop where
  at_ : C s = some (.dic (stK l c r t))
  large : C l = some (.lst (ls.map D.int))
  cells : C c = some (.lst (cs.map D.int))
  sub : Sub C0 C
  s0 : C0 s = none
  l0 : C0 l = none
  c0 : C0 c = none
  lc : l ≠ c
noncomputable def St (C0 C : CH) (s : Addr) (N : Nat) : Prop := ∃ l c ls cs r t, StAt C0 C s l c ls cs r t ∧ 0 ≤ t ∧ t + N ≤ 2 ^ 40 ∧ (ls.length : Int) ≤ 1000 ∧ (cs.length : Int) ≤ 1000
theorem StAt.sl {C0 C : CH} {s l c : Addr} {ls cs : List Int} {r t : Int} (h : StAt C0 C s l c ls cs r t) : s ≠ l ∧ s ≠ c := by
  refine ⟨fun e => ?_, fun e => ?_⟩
  · have a := h.at_; rw [e, h.large] at a; cases a
  · have a := h.at_; rw [e, h.cells] at a; cases a
theorem StAt.put {C0 C : CH} {s l c : Addr} {ls cs : List Int} {r t r' t' : Int} (h : StAt C0 C s l c ls cs r t) : StAt C0 (cup C s (.dic (stK l c r' t'))) s l c ls cs r' t' := by
  obtain ⟨a, b⟩ := h.sl
  exact ⟨cup_same, by rw [cup_ne (Ne.symm a)]; exact h.large, by rw [cup_ne (Ne.symm b)]; exact h.cells, sub_at h.s0 h.sub, h.s0, h.l0, h.c0, h.lc⟩
theorem StAt.putL {C0 C : CH} {s l c : Addr} {ls ls' cs : List Int} {r t : Int} (h : StAt C0 C s l c ls cs r t) : StAt C0 (cup C l (.lst (ls'.map D.int))) s l c ls' cs r t := by
  obtain ⟨a, b⟩ := h.sl
  exact ⟨by rw [cup_ne a]; exact h.at_, cup_same, by rw [cup_ne (Ne.symm h.lc)]; exact h.cells, sub_at h.l0 h.sub, h.s0, h.l0, h.c0, h.lc⟩
theorem StAt.new {C0 C : CH} {s l c p : Addr} {o : CO} {ls cs : List Int} {r t : Int} (h : StAt C0 C s l c ls cs r t) (hp : C p = none) : StAt C0 (cup C p o) s l c ls cs r t :=
  ⟨cup_old hp h.at_, cup_old hp h.large, cup_old hp h.cells, h.sub.trans (sub_new hp), h.s0, h.l0, h.c0, h.lc⟩
theorem st_large {l c : Addr} {r t : Int} : valC (stK l c r t) (.inr "large") = some (.ref l) := rfl
theorem st_cells {l c : Addr} {r t : Int} : valC (stK l c r t) (.inr "cells") = some (.ref c) := rfl
theorem st_rest {l c : Addr} {r t : Int} : valC (stK l c r t) (.inr "rest") = some (.int r) := rfl
theorem st_turn {l c : Addr} {r t : Int} : valC (stK l c r t) (.inr "turn") = some (.int t) := rfl
theorem st_putR {l c : Addr} {r t r' : Int} : putC (stK l c r t) (.inr "rest") (.int r') = stK l c r' t := rfl
theorem st_putT {l c : Addr} {r t t' : Int} : putC (stK l c r t) (.inr "turn") (.int t') = stK l c r t' := rfl
/-- state[..] -/
theorem ix_rest {C0 C : CH} {s l c : Addr} {ls cs : List Int} {r t : Int} {Q : Kv} (h : StAt C0 C s l c ls cs r t) : oIxA (.ref s) (.str "rest") C Q ↔ Q (.int r) C := by
  unfold oIxA
  simp only [h.at_]
  constructor
  · rintro ⟨k, d, hk, e, q⟩
    cases hk
    rw [st_rest] at e
    cases e
    exact q
  · intro q
    exact ⟨_, _, rfl, st_rest, q⟩
theorem ix_turn {C0 C : CH} {s l c : Addr} {ls cs : List Int} {r t : Int} {Q : Kv} (h : StAt C0 C s l c ls cs r t) : oIxA (.ref s) (.str "turn") C Q ↔ Q (.int t) C := by
  unfold oIxA
  simp only [h.at_]
  constructor
  · rintro ⟨k, d, hk, e, q⟩
    cases hk
    rw [st_turn] at e
    cases e
    exact q
  · intro q
    exact ⟨_, _, rfl, st_turn, q⟩
theorem ix_large {C0 C : CH} {s l c : Addr} {ls cs : List Int} {r t : Int} {Q : Kv} (h : StAt C0 C s l c ls cs r t) : oIxA (.ref s) (.str "large") C Q ↔ Q (.ref l) C := by
  unfold oIxA
  simp only [h.at_]
  constructor
  · rintro ⟨k, d, hk, e, q⟩
    cases hk
    rw [st_large] at e
    cases e
    exact q
  · intro q
    exact ⟨_, _, rfl, st_large, q⟩
theorem ix_cells {C0 C : CH} {s l c : Addr} {ls cs : List Int} {r t : Int} {Q : Kv} (h : StAt C0 C s l c ls cs r t) : oIxA (.ref s) (.str "cells") C Q ↔ Q (.ref c) C := by
  unfold oIxA
  simp only [h.at_]
  constructor
  · rintro ⟨k, d, hk, e, q⟩
    cases hk
    rw [st_cells] at e
    cases e
    exact q
  · intro q
    exact ⟨_, _, rfl, st_cells, q⟩
theorem snap_ints (C : CH) : ∀ ns : List Int, SnapL C (ns.map D.int) (ns.map PyData.int)
  | [] => .nil
  | n :: ns => .cons (.int n) (snap_ints C ns)
theorem deep_ints : ∀ ns : List Int, PyData.canLayAll0 (ns.map PyData.int) = true ∧ PyData.depthAll (ns.map PyData.int) = 0
  | [] => ⟨rfl, rfl⟩
  | n :: ns => by
    obtain ⟨h1, h2⟩ := deep_ints ns
    exact ⟨h1, by show max 0 _ = 0; rw [h2]; rfl⟩
/-- a list of ints against the empty list -/
theorem ints_ne {C : CH} {p r : Addr} {ns : List Int} {Q : Kv} (h : C p = some (.lst (ns.map D.int))) (h2 : C r = some (.lst [])) (q : Q (.bl (!ns.isEmpty)) C) : oEqN not (.ref p) (.ref r) C Q := by
  obtain ⟨d1, d2⟩ := deep_ints ns
  refine ⟨.list (ns.map PyData.int), .list [], .lst h (snap_ints C ns), .lst h2 .nil, ?_, by decide, ?_⟩
  · have e : (PyData.list (ns.map PyData.int)).depth ≤ 350 := by
      show PyData.depthAll _ + 1 ≤ 350
      omega
    unfold deepOk
    rw [decide_eq_true e, Bool.and_true]
    exact d1
  · cases ns with
    | nil => exact q
    | cons j js => exact q
theorem set_rest {C : CH} {s l c : Addr} {r t z : Int} {Q : CH → Prop} (h : C s = some (.dic (stK l c r t))) (q : Q (cup C s (.dic (stK l c z t)))) : oSetL (.ref s) (.str "rest") (.int z) C Q ∨ oSetD (.ref s) (.str "rest") (.int z) C Q :=
  .inr ⟨s, _, _, rfl, h, rfl, by show 4 < sizeLine; decide, by rw [st_putR]; exact q⟩
theorem set_turn {C : CH} {s l c : Addr} {r t z : Int} {Q : CH → Prop} (h : C s = some (.dic (stK l c r t))) (q : Q (cup C s (.dic (stK l c r z)))) : oSetL (.ref s) (.str "turn") (.int z) C Q ∨ oSetD (.ref s) (.str "turn") (.int z) C Q :=
  .inr ⟨s, _, _, rfl, h, rfl, by show 4 < sizeLine; decide, by rw [st_putT]; exact q⟩
noncomputable def drawT : CE := match b__law_draw with
  | .whileS t _ :: _ => t
  | _ => .cst .non
noncomputable def drawB : List CS := match b__law_draw with
  | .whileS _ b :: _ => b
  | _ => []
theorem draw_loop {G : G3} {ex : Kxs} {C0 : CH} {s l c : Addr} {cs : List Int} {t : Int} {D : EndsC} {y1 y2 y3 y4 y5 : Option L3.D}
    (hK : ∀ ls' r' C', StAt C0 C' s l c ls' cs r' t → (ls'.length : Int) ≤ 1000 → D.nx [some (.ref s), y1, y2, y3, y4, y5] C') : ∀ (ls : List Int) (r : Int) (C : CH), StAt C0 C s l c ls cs r t → (ls.length : Int) ≤ 1000 →
      whileN (rdT G ex drawT) (rdSs G ex drawB) D (ls.length + 1) [some (.ref s), y1, y2, y3, y4, y5] C
  | ls, r, C, h, hl => by
    unfold whileN
    conv => rw [drawT, b__law_draw]
    dsimp only
    simp_arith! [ix_rest h]
    by_cases h0 : r = 0
    · rw [if_pos (decide_eq_true h0)]
      simp_arith! [ix_large h, oLst]
      intro p hp
      refine ints_ne (cup_old hp h.large) cup_same ?_
      cases ls with
      | nil =>
        simp_arith! [List.isEmpty]
        exact hK _ _ _ (h.new hp) hl
      | cons z zs =>
        simp_arith! [List.isEmpty]
        conv => rw [drawB, b__law_draw]
        dsimp only
        have h' := h.new (o := .lst []) hp
        simp_arith! [ix_large h']
        refine ⟨isLst_of h'.large, ?_⟩
        refine ⟨l, _, 0, 0, .int z, rfl, rfl, h'.large, by decide, by decide, ?_, rfl, ?_⟩
        · show seqIndex? 0 _ = some 0
          simp [seqIndex?]
        · have h2 : StAt C0 (cup (cup C p (.lst [])) l (.lst (zs.map L3.D.int))) s l c zs cs r t := h'.putL
          refine set_rest h2.at_ ?_
          have h3 := h2.put (r' := z) (t' := t)
          simp only [List.length_cons] at hl
          exact (show whileN (rdT G ex drawT) (rdSs G ex drawB) D (zs.length + 1) _ _ from draw_loop hK zs z _ h3 (by omega))
    · rw [if_neg (by simp [h0])]
      exact hK _ _ _ h hl
theorem St.less {C0 C : CH} {s : Addr} {N k : Nat} (h : St C0 C s (N + k)) : St C0 C s N := by
  obtain ⟨l, c, ls, cs, r, t, h1, h2, h3, h4, h5⟩ := h
  exact ⟨l, c, ls, cs, r, t, h1, h2, by omega, h4, h5⟩
theorem draw_ok {n N : Nat} {C0 C : CH} {s : Addr} {size : Int} {Q : Kv} {E : Kx} (h : St C0 C s (N + 1)) (h1 : 1 ≤ size) (h2 : size < 1073741824) (hq : ∀ k C', 0 ≤ k → k < size → St C0 C' s N → Q (.int k) C') : W (n + 1) i__law_draw [.ref s, .int size] C Q E := by
  rw [W__law_draw]
  unfold b__law_draw
  rw [rdSs_cons, rdS_while]
  obtain ⟨l, c, ls, cs, r, t, h, ht, htN, hl, hc⟩ := h
  refine ⟨ls.length + 1, draw_loop (cs := cs) (t := t) (l := l) (c := c) ?_ ls r C h hl⟩
  clear h hl C
  intro ls r C h hl
  dsimp only
  rw [rdSs_cons]
  simp_arith [ix_rest h]
  by_cases hr : 0 < r
  · rw [if_pos (decide_eq_true hr)]
    simp_arith! [ix_rest h]
    refine ⟨by omega, ⟨by omega, by omega⟩, set_rest h.at_ ⟨_, Sub.refl, hq _ _ (Int.fmod_nonneg_of_pos _ (by omega)) (Int.fmod_lt_of_pos _ (by omega)) ⟨l, c, ls, cs, _, t, h.put, ht, by omega, hl, hc⟩⟩⟩
  · rw [if_neg (by simp [hr])]
    rw [rdSs_cons]
    simp_arith [ix_turn h]
    rw [rdSs_cons]
    simp_arith []
    refine set_turn h.at_ ?_
    have h2 := h.put (r' := r) (t' := t + 1)
    generalize cup C s (.dic (stK l c r (t + 1))) = C2 at h2
    rw [rdSs_cons]
    simp_arith [ix_cells h2, oLst]
    intro p hp
    refine ints_ne (cup_old hp h2.cells) cup_same ?_
    have h3 := h2.new (o := .lst []) hp
    generalize cup C2 p (.lst []) = C3 at h3
    have fin : ∀ (z : Int), rdSs (GG n) (exN E) (b__law_draw.drop 5) { nx := fun x C' => ∃ C1, Sub C1 C' ∧ Q D.non C1, rt := fun d C' => ∃ C1, Sub C1 C' ∧ Q d C1 } [some (.ref s), some (.int size), some (.int (t + 1)), some (.int z), none, none] C3 := by
      intro z
      simp only [b__law_draw, List.drop]
      simp_arith! []
      have a1 := Int.fmod_nonneg_of_pos z (show (0 : Int) < 2147483629 by decide)
      have a2 := Int.fmod_lt_of_pos z (show (0 : Int) < 2147483629 by decide)
      generalize z.fmod 2147483629 = x at a1 a2
      have b1 := Int.fmod_nonneg_of_pos ((x + 69621 * (t + 1) + 12345) ^ Int.toNat 3) (show (0 : Int) < 2147483647 by decide)
      have b2 := Int.fmod_lt_of_pos ((x + 69621 * (t + 1) + 12345) ^ Int.toNat 3) (show (0 : Int) < 2147483647 by decide)
      generalize ((x + 69621 * (t + 1) + 12345) ^ Int.toNat 3).fmod 2147483647 = y at b1 b2
      refine ⟨by decide, .inl ⟨by decide, by decide⟩, ⟨by decide, by decide, by omega⟩, by decide, .inl ⟨by decide, by decide⟩, ⟨by decide, by decide, by omega⟩, by decide, ⟨by decide, by decide⟩, by omega, C3, Sub.refl, hq _ _ (Int.fmod_nonneg_of_pos _ (by omega)) (Int.fmod_lt_of_pos _ (by omega)) ⟨l, c, ls, cs, r, t + 1, h3, by omega, by omega, hl, hc⟩⟩
    cases cs with
    | nil =>
      simp_arith [List.isEmpty]
      exact fin 0
    | cons z zs =>
      simp_arith [List.isEmpty, ix_cells h3, h3.cells, List.length_map]
      refine ⟨by omega, ?_⟩
      have k1 := Int.fmod_nonneg_of_pos (t + 1) (show (0 : Int) < ((zs.length + 1 : Nat) : Int) by omega)
      have k2 := Int.fmod_lt_of_pos (t + 1) (show (0 : Int) < ((zs.length + 1 : Nat) : Int) by omega)
      generalize (t + 1).fmod ((zs.length + 1 : Nat) : Int) = k at k1 k2
      obtain ⟨j, rfl⟩ : ∃ j : Nat, k = j := ⟨k.toNat, by omega⟩
      have hj : j < (z :: zs).length := by simp only [List.length_cons]; omega
      have hz : ((z :: zs).map D.int)[j]? = some (D.int ((z :: zs)[j])) := by rw [List.getElem?_map, List.getElem?_eq_getElem hj]; rfl
      exact oIxA_lst h3.cells (atI_nat hz) (fin _)
theorem pick_ok {n N : Nat} {C0 C : CH} {s p : Addr} {xs : List D} {Q : Kv} {E : Kx} (h : St C0 C s (N + 1)) (hp : C0 p = some (.lst xs)) (h1 : 1 ≤ xs.length) (h2 : xs.length < 1000000) (hq : ∀ d C', d ∈ xs → St C0 C' s N → Q d C') : W (n + 2) i__law_pick [.ref s, .ref p] C Q E := by
  rw [W__law_pick]
  unfold b__law_pick
  have hC : C p = some (.lst xs) := by obtain ⟨l, c, ls, cs, r, t, h, _⟩ := h; exact h.sub _ _ hp
  simp_arith! [hC, GG_call]
  refine draw_ok h (by omega) (by omega) fun k C' k1 k2 h' => ?_
  have hC' : C' p = some (.lst xs) := by obtain ⟨l, c, ls, cs, r, t, h', _⟩ := h'; exact h'.sub _ _ hp
  obtain ⟨j, rfl⟩ : ∃ j : Nat, k = j := ⟨k.toNat, by omega⟩
  have hj : j < xs.length := by omega
  refine oIxA_lst hC' (atI_nat (List.getElem?_eq_getElem hj)) ⟨C', Sub.refl, hq _ _ (List.getElem_mem hj) h'⟩
theorem pick_str {n N : Nat} {C0 C : CH} {s : Addr} {z : Str} {Q : Kv} {E : Kx} (h : St C0 C s (N + 1)) (h1 : 1 ≤ z.length) (h2 : z.length < 1000000) (hq : ∀ c C', c ∈ z.cps.toList → St C0 C' s N → Q (.str ⟨#[c]⟩) C') : W (n + 2) i__law_pick [.ref s, .str z] C Q E := by
  rw [W__law_pick]
  unfold b__law_pick
  have hs : z.length ≤ sizeLine := by have : 1000000 ≤ sizeLine := (by decide); omega
  simp_arith! [GG_call]
  refine ⟨hs, ?_⟩
  refine draw_ok h (by omega) (by omega) fun k C' k1 k2 h' => ?_
  obtain ⟨j, rfl⟩ : ∃ j : Nat, k = j := ⟨k.toNat, by omega⟩
  rw [len_cps] at k2
  have hj : j < z.cps.toList.length := by omega
  rw [oIxA_str]
  exact ⟨hs, _, atI_nat (List.getElem?_eq_getElem hj), C', Sub.refl, hq _ _ (List.getElem_mem hj) h'⟩
theorem St.alloc {C0 C : CH} {s p : Addr} {N : Nat} {o : CO} (h : St C0 C s N) (hp : C p = none) : St (cup C0 p o) (cup C p o) s N := by
  obtain ⟨l, c, ls, cs, r, t, h, h2⟩ := h
  have ne : ∀ q u, C q = some u → q ≠ p := fun q u e z => by rw [z, hp] at e; cases e
  refine ⟨l, c, ls, cs, r, t, ⟨cup_old hp h.at_, cup_old hp h.large, cup_old hp h.cells, fun a u e => ?_, ?_, ?_, ?_, h.lc⟩, h2⟩
  · by_cases ha : a = p
    · subst ha; rw [cup_same] at e ⊢; exact e
    · rw [cup_ne ha] at e ⊢; exact h.sub a u e
  · rw [cup_ne (ne _ _ h.at_)]; exact h.s0
  · rw [cup_ne (ne _ _ h.large)]; exact h.l0
  · rw [cup_ne (ne _ _ h.cells)]; exact h.c0
/-- what was made meanwhile is forgotten -/
theorem St.drop {C0 C1 C : CH} {s : Addr} {N : Nat} (h : St C1 C s N) (hs : Sub C0 C1) : St C0 C s N := by
  obtain ⟨l, c, ls, cs, r, t, h, h2⟩ := h
  have no : ∀ q, C1 q = none → C0 q = none := fun q e => by
    cases e2 : C0 q with
    | none => rfl
    | some u => rw [hs _ _ e2] at e; cases e
  exact ⟨l, c, ls, cs, r, t, ⟨h.at_, h.large, h.cells, hs.trans h.sub, no _ h.s0, no _ h.l0, no _ h.c0, h.lc⟩, h2⟩
theorem St.subC {C0 C : CH} {s : Addr} {N : Nat} (h : St C0 C s N) : Sub C0 C := by
  obtain ⟨l, c, ls, cs, r, t, h, h2⟩ := h
  exact h.sub
theorem begin_ok {n : Nat} {ns : List Int} {C0 : CH} {Q : Kv} {E : Kx} (hl : ns.length ≤ 63) (hq : ∀ s C', St C0 C' s 1000000 → Q (.ref s) C') : W (n + 1) i__law_begin [.rls (ns.map D.int)] C0 Q E := by
  rw [W__law_begin]
  unfold b__law_begin
  rw [rdSs_cons]
  have h63 : (64 : Nat) ≤ sizeLine := by decide
  simp_arith [cLc, iSeq]
  refine lcL_of D.int (fun z : Int => D.int (if z < 0 then -z else z)) trivial ns (fun z _ => ⟨_, rfl, fun Q' hQ => ?_⟩) (by omega) ?_
  · simp_arith! [wipe3]
    exact hQ
  intro c hc
  have em : (ns.map fun z : Int => D.int (if z < 0 then -z else z)) = (ns.map fun z : Int => if z < 0 then -z else z).map D.int := by rw [List.map_map]; rfl
  rw [em]
  generalize hcs : (ns.map fun z : Int => if z < 0 then -z else z) = cs
  have hcl : cs.length ≤ 63 := by rw [← hcs, List.length_map]; exact hl
  rw [rdSs_cons]
  simp_arith [cDic, cPrs, cLc, iSeq]
  have hc1 : cup C0 c (.lst (cs.map D.int)) c = some (.lst (cs.map D.int)) := cup_same
  refine lcL_if D.int (fun z : Int => D.int (z - 10 ^ 18)) (fun z => decide ((10 : Int) ^ 18 ≤ z)) hc1 cs (fun z _ => ⟨_, rfl, fun Q' hQ => ?_, fun Q' hQ => ?_⟩) (by omega) ?_
  · simp_arith! [wipe3]
    exact ⟨⟨by decide, by decide, by decide⟩, hQ⟩
  · simp_arith! [wipe3]
    exact ⟨⟨by decide, by decide, by decide⟩, hQ⟩
  intro l hll
  have em2 : ((cs.filter fun z => decide ((10 : Int) ^ 18 ≤ z)).map fun z : Int => D.int (z - 10 ^ 18)) = ((cs.filter fun z => decide ((10 : Int) ^ 18 ≤ z)).map fun z : Int => z - 10 ^ 18).map D.int := by rw [List.map_map]; rfl
  rw [em2]
  generalize hls : ((cs.filter fun z => decide ((10 : Int) ^ 18 ≤ z)).map fun z : Int => z - 10 ^ 18) = ls
  have hlsl : ls.length ≤ 63 := by
    have := List.length_filter_le (fun z => decide ((10 : Int) ^ 18 ≤ z)) cs
    rw [← hls, List.length_map]
    omega
  refine ⟨stK l c 0 0, rfl, rfl, by show 4 ≤ 15; decide, fun s hs => ⟨_, Sub.refl, hq _ _ ?_⟩⟩
  have e : dicOf (stK l c 0 0) = stK l c 0 0 := rfl
  rw [e]
  have hcl' : l ≠ c := fun z => by rw [z, cup_same] at hll; cases hll
  have no : ∀ (C : CH) (a b : Addr) (o : CO), cup C b o a = none → C a = none := fun C a b o h => by
    by_cases hab : a = b
    · subst hab; rw [cup_same] at h; cases h
    · rw [cup_ne hab] at h; exact h
  have hl0 := no _ _ _ _ hll
  have hs0 := no _ _ _ _ (no _ _ _ _ hs)
  refine ⟨l, c, ls, cs, 0, 0, ⟨cup_same, cup_old hs cup_same, cup_old hs (cup_old hll cup_same), ?_, hs0, hl0, hc, hcl'⟩, by omega, by omega, by omega, by omega⟩
  exact ((sub_new hc).trans (sub_new hll)).trans (sub_new hs)
theorem St.no {C0 C : CH} {s p : Addr} {N : Nat} (h : St C0 C s N) (hp : C p = none) : C0 p = none := by
  cases e : C0 p with
  | none => rfl
  | some u => rw [h.subC _ _ e] at hp; cases hp
theorem St.le {C0 C : CH} {s : Addr} {M N : Nat} (h : St C0 C s N) (hm : M ≤ N) : St C0 C s M := St.less (k := N - M) (by rw [show M + (N - M) = N by omega]; exact h)
theorem St.sub {C0 C C' : CH} {s : Addr} {N : Nat} (h : St C0 C s N) (k : Sub C C') : St C0 C' s N := by
  obtain ⟨l, c, ls, cs, r, t, h, h2⟩ := h
  exact ⟨l, c, ls, cs, r, t, ⟨k _ _ h.at_, k _ _ h.large, k _ _ h.cells, h.sub.trans k, h.s0, h.l0, h.c0, h.lc⟩, h2⟩
theorem good_pqfg : ∀ z ∈ (["p", "q", "f", "g"] : List Str), goodNm z := by
  intro z hz
  simp only [List.mem_cons, List.not_mem_nil, or_false] at hz
  rcases hz with rfl | rfl | rfl | rfl <;> exact ⟨by decide +kernel, by decide +kernel, by decide +kernel⟩
theorem good_words : ∀ z ∈ (["any", "all", "not", "and", "or", "then", "else", "source", "x1", "emit", "if", "for"] : List Str), goodNm z := by
  intro z hz
  simp only [List.mem_cons, List.not_mem_nil, or_false] at hz
  rcases hz with rfl | rfl | rfl | rfl | rfl | rfl | rfl | rfl | rfl | rfl | rfl | rfl <;> exact ⟨by decide +kernel, by decide +kernel, by decide +kernel⟩
theorem name_ok {n N : Nat} {C0 C : CH} {s : Addr} {Q : Kv} {E : Kx} (h : St C0 C s (N + 12)) (hq : ∀ z C', goodNm z → St C0 C' s N → Q (.str z) C') : W (n + 3) i__law_name [.ref s] C Q E := by
  rw [W__law_name]
  unfold b__law_name
  rw [rdSs_cons]
  simp_arith [GG_call]
  refine draw_ok (N := N + 11) h (by decide) (by decide) fun way C1 w1 w2 h1 => ?_
  rw [rdSs_cons]
  simp_arith []
  by_cases c1 : way < 3
  · rw [if_pos (decide_eq_true c1)]
    simp_arith! [oLst, GG_call]
    intro p hp
    refine pick_ok (N := N + 10) (h1.alloc hp) cup_same (by decide) (by decide) fun d C' hd h' => ?_
    obtain ⟨z, hz, rfl⟩ : ∃ z ∈ (["p", "q", "f", "g"] : List Str), d = .str z := by
      obtain ⟨z, hz, e⟩ := List.mem_map.mp (show d ∈ (["p", "q", "f", "g"] : List Str).map D.str from hd)
      exact ⟨z, hz, e.symm⟩
    have hp0 : C0 p = none := by
      cases e : C0 p with
      | none => rfl
      | some u => rw [h1.subC _ _ e] at hp; cases hp
    exact ⟨C', Sub.refl, hq _ _ (good_pqfg z hz) ((h'.drop (sub_new hp0)).less (k := 10))⟩
  · rw [if_neg (by simp [c1])]
    rw [rdSs_cons]
    simp_arith []
    by_cases c2 : way = 3
    · rw [if_pos (decide_eq_true c2)]
      simp_arith! [oLst, GG_call]
      intro p hp
      refine pick_ok (N := N + 10) (h1.alloc hp) cup_same (by decide) (by decide) fun d C' hd h' => ?_
      obtain ⟨z, hz, rfl⟩ : ∃ z ∈ (["any", "all", "not", "and", "or", "then", "else", "source", "x1", "emit", "if", "for"] : List Str), d = .str z := by
        obtain ⟨z, hz, e⟩ := List.mem_map.mp (show d ∈ (["any", "all", "not", "and", "or", "then", "else", "source", "x1", "emit", "if", "for"] : List Str).map D.str from hd)
        exact ⟨z, hz, e.symm⟩
      have hp0 : C0 p = none := by
        cases e : C0 p with
        | none => rfl
        | some u => rw [h1.subC _ _ e] at hp; cases hp
      exact ⟨C', Sub.refl, hq _ _ (good_words z hz) ((h'.drop (sub_new hp0)).less (k := 10))⟩
    · rw [if_neg (by simp [c2])]
      rw [rdSs_cons]
      simp_arith []
      rw [rdSs_cons]
      simp_arith [cLc, iRg1, GG_call]
      refine draw_ok (N := N + 10) h1 (by decide) (by decide) fun k C2 k1 k2 h2 => ?_
      obtain ⟨j, rfl⟩ : ∃ j : Nat, k = j := ⟨k.toNat, by omega⟩
      refine ⟨_, rfl, by omega, by omega, ?_⟩
      have hjt : (rngD 0 (j : Int).toNat).length = j := by simp [rngD]
      refine lcL_run (fun k C => St C0 C s (N + 1 + k)) (fun d => ∃ c, c ∈ SIG.cps.toList ∧ d = .str ⟨#[c]⟩) (fun _ _ _ => trivial) _ [] C2 ?_ (fun _ h => nomatch h) ?_ ?_ ?_
      · rw [hjt]; exact St.less (k := 9 - j) (by rw [show N + 1 + j + (9 - j) = N + 10 by omega]; exact h2)
      · rw [hjt]; have : 100 ≤ sizeLine := (by decide); simp only [List.length_nil]; omega
      · intro acc C3 h3 hla hR p hp
        obtain ⟨cs, hcs, hcl⟩ : ∃ cs : List Nat, acc = cs.map (fun c => D.str ⟨#[c]⟩) ∧ ∀ c ∈ cs, c ∈ SIG.cps.toList := by
          clear hla
          induction acc with
          | nil => exact ⟨[], rfl, fun _ h => nomatch h⟩
          | cons a acc ih =>
            obtain ⟨cs, e, h⟩ := ih fun d hd => hR d (List.mem_cons_of_mem _ hd)
            obtain ⟨c, hc, e2⟩ := hR a List.mem_cons_self
            refine ⟨c :: cs, by rw [e, e2]; rfl, fun x hx => ?_⟩
            rcases List.mem_cons.mp hx with z | hx
            · rw [z]; exact hc
            · exact h x hx
        subst hcs
        simp only [List.length_nil, List.length_map] at hla
        rw [hjt] at hla
        have hst := h3.alloc (o := .lst (cs.map fun c => D.str ⟨#[c]⟩)) hp
        simp_arith! [GG_call]
        refine pick_str (N := N) hst (by decide +kernel) (by decide +kernel) fun c C4 hc h4 => ?_
        refine ⟨⟨_, rfl⟩, ?_⟩
        have hpC : C4 p = some (.lst (cs.map fun c => D.str ⟨#[c]⟩)) := h4.subC _ _ cup_same
        have h16 : (1000 : Nat) ≤ sizeLine := by decide
        refine ⟨_, _, cs.map (fun c => (⟨#[c]⟩ : Str)), rfl, rfl, SqC_ref.mpr (by rw [hpC, List.map_map]; rfl), ?_, ?_⟩
        · have e1 : ((cs.map fun c => (⟨#[c]⟩ : Str)).map (·.length)).sum = cs.length := by
            clear hla hpC h4 hst hcl hR
            induction cs with
            | nil => rfl
            | cons c cs ih =>
              rw [List.map_cons, List.map_cons, List.sum_cons, ih, List.length_cons, show (⟨#[c]⟩ : Str).length = 1 from rfl]
              omega
          rw [e1, show (Str.ofString "").length = 0 from rfl]
          omega
        · have hj := join_chars cs
          generalize Txt.join (Str.ofString "") (cs.map fun c => (⟨#[c]⟩ : Str)) = z at hj
          have hzl : z.length = cs.length := by rw [len_cps, hj]
          have hc1 : (⟨#[c]⟩ : Str).length = 1 := rfl
          refine ⟨by omega, ?_⟩
          have hp0 : C0 p = none := by
            cases e : C0 p with
            | none => rfl
            | some u => rw [h3.subC _ _ e] at hp; cases hp
          refine ⟨C4, Sub.refl, hq _ _ (good_chars (c := c) (cs := cs) ?_ hc hcl (by omega)) (h4.drop (sub_new hp0))⟩
          have := TL.tl_append (⟨#[c]⟩ : Str) z
          exact this.trans (by show [c] ++ z.cps.toList = _; rw [hj]; rfl)
      · intro d hd k C3 h3
        obtain ⟨i, hi, rfl⟩ := List.mem_map.mp hd
        refine ⟨_, rfl, fun Q' hQ => ?_⟩
        simp_arith! [wipe3]
        refine ⟨by decide +kernel, ?_⟩
        refine pick_str (N := N + 1 + k) h3 (by decide +kernel) (by decide +kernel) fun c C' hc h' => hQ _ _ ⟨c, ?_, rfl⟩ h'
        have e : ((Str.ofString "abcdefghijklmnopqrstuvwxyz") ++ (Str.ofString "0123456789")) = SIG := by decide +kernel
        rw [e] at hc
        exact hc
/-- a value that may be used at the level at_, where terms with items up to kn have been called -/
noncomputable def Kn.has : Kn → Vv → Prop
  | .num k, v => v.top ≤ k
  | .lst vs, v => v.t ∈ vs
noncomputable def Vv.use : Vv → Int → Kn → Prop
  | .item i, at_, _ => i ≤ at_
  | v, _, kn => kn.has v
noncomputable def Vv.fit : Vv → Int → Kn → Prop
  | .item _, _, _ => False
  | .app1 _ a, at_, kn => a.use at_ kn
  | .app2 _ a b, at_, kn => a.use at_ kn ∧ b.use at_ kn
structure fitT (t : T) (at_ : Int) (kn : Kn) : Prop where
  ex : ∃ v : Vv, t = v.t ∧ v.good ∧ v.h ≤ 4 ∧ v.top ≤ 3 ∧ v.fit at_ kn
theorem has_may {kn : Kn} {v : Vv} (h : kn.has v) : kn.may v.top v.t = true := by
  cases kn with
  | num k => exact decide_eq_true h
  | lst vs => exact inT_mem h
theorem use_ok {v : Vv} {at_ : Int} {kn : Kn} (g : v.good) (hh : v.h ≤ 4) (ht : v.top ≤ 3) (u : v.use at_ kn) : mayUse v.t at_ kn = true := by
  unfold mayUse
  rw [meas_vv 4 v g hh ht]
  cases v with
  | item i => simp only [Vv.t, isNum, if_true, numOf]; exact decide_eq_true u
  | app1 z a => simp only [Vv.t, isNum, Bool.false_eq_true, if_false]; exact has_may (v := .app1 z a) u
  | app2 z a b => simp only [Vv.t, isNum, Bool.false_eq_true, if_false]; exact has_may (v := .app2 z a b) u
theorem fitT.call {t : T} {at_ : Int} {kn : Kn} (h : fitT t at_ kn) : mayCall t at_ kn = true := by
  obtain ⟨v, rfl, g, hh, ht, f⟩ := h.ex
  have m := meas_vv 4 v g hh ht
  cases v with
  | item i => exact f.elim
  | app1 z a =>
    have ha : a.h ≤ 4 := by simp only [Vv.h] at hh; omega
    have u := use_ok (v := a) g.2 ha ht f
    simp only [Vv.t] at m ⊢
    simp only [mayCall, m, Option.isSome, List.all_cons, List.all_nil, u, Bool.and_self]
  | app2 z a b =>
    have ha : a.h ≤ 4 := by simp only [Vv.h] at hh; split at hh <;> omega
    have hb : b.h ≤ 4 := by simp only [Vv.h] at hh; split at hh <;> omega
    have ta : a.top ≤ 3 := by simp only [Vv.top] at ht; split at ht <;> omega
    have tb : b.top ≤ 3 := by simp only [Vv.top] at ht; split at ht <;> omega
    have u := use_ok (v := a) g.2.1 ha ta f.1
    have u2 := use_ok (v := b) g.2.2 hb tb f.2
    simp only [Vv.t] at m ⊢
    simp only [mayCall, m, Option.isSome, List.all_cons, List.all_nil, u, u2, Bool.and_self]
theorem fitT.tup {t : T} {at_ : Int} {kn : Kn} (h : fitT t at_ kn) : ∃ xs, t = .tup xs := by
  obtain ⟨v, rfl, _, _, _, f⟩ := h.ex
  cases v with
  | item i => exact f.elim
  | app1 z a => exact ⟨_, rfl⟩
  | app2 z a b => exact ⟨_, rfl⟩
theorem fitT.ok {t : T} {at_ : Int} {kn : Kn} (h : fitT t at_ kn) : okT t = true ∧ t.p.depth ≤ 4 ∧ size t ≤ 64 := by
  obtain ⟨v, rfl, g, hh, ht, f⟩ := h.ex
  obtain ⟨h1, h2, h3⟩ := ok_vv v g
  have := vv_size 4 v hh
  exact ⟨h1, by omega, by omega⟩
mutual
noncomputable def fitC : Cn → Int → Kn → Prop
  | .ask t _, at_, kn => fitT t at_ kn
  | .con _ ps, at_, kn => 1 < ps.length ∧ fitCs ps at_ kn
  | .qu _ t c, at_, kn => fitT t at_ kn ∧ at_ + 1 ≤ 3 ∧ fitC c (at_ + 1) kn
noncomputable def fitCs : List Cn → Int → Kn → Prop
  | [], _, _ => True
  | c :: cs, at_, kn => fitC c at_ kn ∧ fitCs cs at_ kn
end
mutual
noncomputable def asks : Cn → Nat
  | .ask _ _ => 1
  | .con _ ps => askss ps
  | .qu _ _ c => asks c
noncomputable def askss : List Cn → Nat
  | [] => 0
  | c :: cs => asks c + askss cs
end
theorem askss_append : ∀ (xs ys : List Cn), askss (xs ++ ys) = askss xs + askss ys
  | [], ys => by simp [askss]
  | x :: xs, ys => by simp only [List.cons_append, askss, askss_append xs ys]; omega
theorem shaped_ask {t : T} {w : Bool} : shaped (Cn.ask t w).t = true := by
  simp only [Cn.t]
  cases t <;> rfl
theorem shaped_con {a : Bool} {ps : List Cn} (h : 1 < ps.length) : shaped (Cn.con a ps).t = true := by
  simp only [Cn.t, shaped, Bool.and_eq_true]
  refine ⟨by cases a <;> rfl, ?_⟩
  rw [Cn.ts_map, List.length_map]
  exact decide_eq_true h
theorem shaped_qu {a : Bool} {t : T} {c : Cn} : shaped (Cn.qu a t c).t = true := by
  simp only [Cn.t]
  cases a <;> cases t <;> rfl
noncomputable abbrev CJob := Cn × Int × Int
noncomputable def jb (q : CJob) : Job := (q.1.t, q.2.1, q.2.2)
noncomputable def fitJ (kn : Kn) (q : CJob) : Prop := fitC q.1 q.2.1 kn ∧ q.2.1 ≤ 3 ∧ q.2.2 + ht q.1 ≤ 101
noncomputable def asksJ : List CJob → Nat
  | [] => 0
  | q :: qs => asks q.1 + asksJ qs
theorem asksJ_append : ∀ a b : List CJob, asksJ (a ++ b) = asksJ a + asksJ b
  | [], b => by simp [asksJ]
  | q :: a, b => by simp only [List.cons_append, asksJ, asksJ_append a b]; omega
theorem asksJ_map (at_ nest : Int) : ∀ ps : List Cn, asksJ (ps.map fun p => (p, at_, nest)) = askss ps
  | [] => rfl
  | p :: ps => by simp only [List.map_cons, asksJ, askss, asksJ_map at_ nest ps]
theorem askss_reverse : ∀ ps : List Cn, askss ps.reverse = askss ps
  | [] => rfl
  | p :: ps => by simp only [List.reverse_cons, askss_append, askss, askss_reverse ps]; omega
theorem fitCs_mem {at_ : Int} {kn : Kn} : ∀ {ps : List Cn} {p : Cn}, fitCs ps at_ kn → p ∈ ps → fitC p at_ kn
  | q :: qs, p, h, m => by
    rcases List.mem_cons.mp m with e | m
    · rw [e]; exact h.1
    · exact fitCs_mem h.2 m
theorem ht_pos (c : Cn) : 1 ≤ ht c := by cases c <;> simp [ht]
theorem step_fit {q : CJob} {count : Int} {known : Kn} (h : fitJ known q) : ∃ new : List CJob, ∃ k : Nat, condStep (jb q) count known = some (new.map jb, count + k) ∧ (∀ x ∈ new, fitJ known x) ∧ asksJ new + k = asks q.1 := by
  obtain ⟨c, at_, nest⟩ := q
  obtain ⟨h1, h2, h3⟩ := h
  simp only at h1 h2 h3
  have hp := ht_pos c
  have hn : ¬ nest > 100 := by omega
  have ha : ¬ at_ > 3 := by omega
  cases c with
  | ask t w =>
    have g : fitT t at_ known := h1
    obtain ⟨xs, rfl⟩ := g.tup
    refine ⟨[], 1, ?_, (fun _ h => nomatch h), rfl⟩
    unfold condStep
    rw [if_neg (by rw [show (jb (Cn.ask (.tup xs) w, at_, nest)).1 = (Cn.ask (.tup xs) w).t from rfl, shaped_ask]; intro hh; rcases hh with hh | hh | hh; exact hn hh; exact ha hh; cases hh)]
    show (if mayCall (.tup xs) at_ known = false then none else if (Str.ofString "ask") = ("ask" : Str) then some (([] : List Job), count + 1) else _) = _
    rw [if_neg (by rw [g.call]; decide), if_pos rfl]
    rfl
  | con a ps =>
    refine ⟨ps.reverse.map fun p => (p, at_, nest + 1), 0, ?_, fun x hx => ?_, ?_⟩
    · unfold condStep
      rw [if_neg (by rw [show (jb (Cn.con a ps, at_, nest)).1 = (Cn.con a ps).t from rfl, shaped_con h1.1]; intro hh; rcases hh with hh | hh | hh; exact hn hh; exact ha hh; cases hh)]
      show some ((Cn.ts ps).reverse.map (fun p => (p, at_, nest + 1)), count) = _
      rw [Cn.ts_map, ← List.map_reverse, List.map_map, List.map_map]
      simp
      intro _ _
      rfl
    · obtain ⟨p, hp', rfl⟩ := List.mem_map.mp hx
      have hp' := List.mem_reverse.mp hp'
      have := hts_mem hp'
      simp only [ht] at h3
      exact ⟨fitCs_mem h1.2 hp', h2, by show nest + 1 + (ht p : Int) ≤ 101; omega⟩
    · rw [asksJ_map, askss_reverse]; rfl
  | qu a t c =>
    obtain ⟨g, h4, h5⟩ := h1
    obtain ⟨xs, rfl⟩ := g.tup
    simp only [ht] at h3
    refine ⟨[(c, at_ + 1, nest + 1)], 0, ?_, fun x hx => ?_, ?_⟩
    · unfold condStep
      rw [if_neg (by rw [show (jb (Cn.qu a (.tup xs) c, at_, nest)).1 = (Cn.qu a (.tup xs) c).t from rfl, shaped_qu]; intro hh; rcases hh with hh | hh | hh; exact hn hh; exact ha hh; cases hh)]
      show (if mayCall (.tup xs) at_ known = false then none else if qw a = ("ask" : Str) then some (([] : List Job), count + 1) else some ([(c.t, at_ + 1, nest + 1)], count)) = _
      have hq : ¬ qw a = ("ask" : Str) := by
        have := qw_ask a
        intro z; rw [this] at z; exact z
      rw [if_neg (by rw [g.call]; decide), if_neg hq]
      simp
      rfl
    · cases List.mem_singleton.mp hx
      exact ⟨h5, h4, by show nest + 1 + (ht c : Int) ≤ 101; omega⟩
    · simp [asksJ, asks]
theorem loop_fit (known : Kn) : ∀ (fuel : Nat) (qs : List CJob) (count : Int), (∀ q ∈ qs, fitJ known q) → count + asksJ qs ≤ 400 → wt (qs.map jb) ≤ fuel → condLoop fuel (qs.map jb) count known = some true := by
  intro fuel
  induction fuel with
  | zero =>
    intro qs count h1 h2 h3
    cases qs with
    | nil => rfl
    | cons q qs => have := size_pos (jb q).1; simp only [List.map_cons, wt] at h3; omega
  | succ f ih =>
    intro qs count h1 h2 h3
    cases qs with
    | nil => rfl
    | cons q qs =>
      obtain ⟨new, k, e1, e2, e3⟩ := step_fit (count := count) (known := known) (h1 q List.mem_cons_self)
      simp only [List.map_cons, condLoop, e1]
      simp only [asksJ] at h2
      rw [if_neg (by omega), ← List.map_append]
      have hw := (condStep_wt e1).1
      refine ih (new ++ qs) _ (fun x hx => ?_) ?_ ?_
      · rcases List.mem_append.mp hx with hx | hx
        · exact e2 x hx
        · exact h1 x (List.mem_cons_of_mem _ hx)
      · rw [asksJ_append]; omega
      · rw [List.map_append, wt_append]
        simp only [List.map_cons, wt] at h3
        simp only at hw
        omega
theorem isCondK_fit {c : Cn} {at_ : Int} {kn : Kn} (h : fitC c at_ kn) (h3 : at_ ≤ 3) (hh : ht c ≤ 100) (ha : asks c ≤ 400) : isCondK c.t at_ kn = true := by
  unfold isCondK
  have := loop_fit kn (size c.t) [(c, at_, 1)] 0 (fun q hq => by cases List.mem_singleton.mp hq; exact ⟨h, h3, by show (1 : Int) + ht c ≤ 101; omega⟩) (by simp only [asksJ]; omega) (by simp [wt, jb])
  rw [show [(c.t, at_, (1 : Int))] = [(c, at_, (1 : Int))].map jb from rfl, this]
  rfl
theorem isCond_fit {c : Cn} {at_ : Int} (h : fitC c at_ at_) (h3 : at_ ≤ 3) (hh : ht c ≤ 100) (ha : asks c ≤ 400) : isCond c.t at_ = true := isCondK_fit h h3 hh ha
theorem ok_cw (a : Bool) : okT (.str (cw a)) = true := by cases a <;> decide +kernel
theorem ok_qw (a : Bool) : okT (.str (qw a)) = true := by cases a <;> decide +kernel
mutual
theorem fit_ok : ∀ (c : Cn) (at_ : Int) (kn : Kn), fitC c at_ kn → okT c.t = true ∧ c.t.p.depth ≤ 2 * ht c + 4 ∧ size c.t ≤ 72 * csize c
  | .ask t w, at_, kn, h => by
    have h0 : okT (.str "ask") = true := by decide +kernel
    obtain ⟨h1, h2, h3⟩ := fitT.ok h
    refine ⟨?_, ?_, ?_⟩
    · simp only [Cn.t, okT, okTs, Bool.and_true] at *
      rw [h0, h1]; rfl
    · simp only [Cn.t, T.p, T.pl, PyData.depth, PyData.depthAll, ht]; omega
    · simp only [Cn.t, size, sizes, csize]; omega
  | .con a ps, at_, kn, h => by
    obtain ⟨h1, h2, h3⟩ := fits_ok ps at_ kn h.2
    have h0 := ok_cw a
    refine ⟨?_, ?_, ?_⟩
    · simp only [Cn.t, okT, okTs, Bool.and_true] at *
      rw [h0, h1]; rfl
    · simp only [Cn.t, T.p, T.pl, PyData.depth, PyData.depthAll, ht]; omega
    · simp only [Cn.t, size, sizes, csize]; omega
  | .qu a t c, at_, kn, h => by
    obtain ⟨g, _, h5⟩ := h
    obtain ⟨t1, t2, t3⟩ := fitT.ok g
    obtain ⟨h1, h2, h3⟩ := fit_ok c _ kn h5
    have h0 := ok_qw a
    have hp := ht_pos c
    refine ⟨?_, ?_, ?_⟩
    · simp only [Cn.t, okT, okTs, Bool.and_true] at *
      rw [h0, h1, t1]; rfl
    · simp only [Cn.t, T.p, T.pl, PyData.depth, PyData.depthAll, ht]; omega
    · simp only [Cn.t, size, sizes, csize]; omega
theorem fits_ok : ∀ (cs : List Cn) (at_ : Int) (kn : Kn), fitCs cs at_ kn → okTs (Cn.ts cs) = true ∧ PyData.depthAll (T.pl (Cn.ts cs)) ≤ 2 * hts cs + 4 ∧ sizes (Cn.ts cs) ≤ 72 * csizes cs
  | [], at_, kn, h => ⟨rfl, by simp [Cn.ts, T.pl, PyData.depthAll], by simp [Cn.ts, sizes]⟩
  | c :: cs, at_, kn, h => by
    obtain ⟨h1, h2, h3⟩ := fit_ok c at_ kn h.1
    obtain ⟨k1, k2, k3⟩ := fits_ok cs at_ kn h.2
    refine ⟨?_, ?_, ?_⟩
    · simp only [Cn.ts, okTs, h1, k1, Bool.and_self]
    · simp only [Cn.ts, T.pl, PyData.depthAll, hts]; omega
    · simp only [Cn.ts, sizes, csizes]; omega
end
/-- a list of data against the empty list -/
theorem deep_ts : ∀ ts : List T, (∀ t ∈ ts, okT t = true ∧ t.p.depth ≤ 300) → PyData.canLayAll0 (T.pl ts) = true ∧ PyData.depthAll (T.pl ts) ≤ 300
  | [], _ => ⟨rfl, Nat.zero_le _⟩
  | t :: ts, h => by
    obtain ⟨h1, h2⟩ := deep_ts ts fun x hx => h x (List.mem_cons_of_mem _ hx)
    obtain ⟨k1, k2⟩ := h t List.mem_cons_self
    constructor
    · simp only [T.pl, PyData.canLayAll0, Bool.and_eq_true]
      exact ⟨canLay_ok t k1, h1⟩
    · simp only [T.pl, PyData.depthAll]; omega
theorem ts_ne {C : CH} {p r : Addr} {ts : List T} {Q : Kv} (ok : ∀ t ∈ ts, okT t = true ∧ t.p.depth ≤ 300) (h : C p = some (.lst (T.ds ts))) (h2 : C r = some (.lst [])) (q : Q (.bl (!ts.isEmpty)) C) : oEqN not (.ref p) (.ref r) C Q := by
  obtain ⟨d1, d2⟩ := deep_ts ts ok
  refine ⟨.list (T.pl ts), .list [], .lst h (T.snaps C ts), .lst h2 .nil, ?_, by decide, ?_⟩
  · have e : (PyData.list (T.pl ts)).depth ≤ 350 := by
      show PyData.depthAll _ + 1 ≤ 350
      omega
    unfold deepOk
    rw [decide_eq_true e, Bool.and_true]
    exact d1
  · cases ts with
    | nil => exact q
    | cons j js => exact q
theorem atI_last {α : Type} {xs : List α} (h : xs ≠ []) : L2.atI xs (-1) = some (xs.getLast h) := by
  unfold L2.atI
  have hl : 0 < xs.length := List.length_pos_iff.mpr h
  have e : L2.ixN xs.length (-1) = some (xs.length - 1) := by
    unfold L2.ixN
    simp
    omega
  rw [e]
  show xs[xs.length - 1]? = _
  rw [List.getElem?_eq_getElem (by omega), List.getLast_eq_getElem]
noncomputable def vds (vs : List Vv) : List D := T.ds (vs.map Vv.t)
theorem vds_map (vs : List Vv) : vds vs = vs.map fun v => v.t.d := by
  unfold vds
  rw [T.ds_map, List.map_map]
  rfl
/-- an own object of the base is written -/
theorem St.write {C0 C : CH} {s p : Addr} {N : Nat} {o o' : CO} (h : St (cup C0 p o) C s N) (hp : C0 p = none) : St (cup C0 p o') (cup C p o') s N := by
  obtain ⟨l, c, ls, cs, r, t, h, h2⟩ := h
  have ne : ∀ q, cup C0 p o q = none → q ≠ p ∧ C0 q = none := fun q e => by
    by_cases z : q = p
    · subst z; rw [cup_same] at e; cases e
    · rw [cup_ne z] at e; exact ⟨z, e⟩
  obtain ⟨n1, m1⟩ := ne _ h.s0
  obtain ⟨n2, m2⟩ := ne _ h.l0
  obtain ⟨n3, m3⟩ := ne _ h.c0
  refine ⟨l, c, ls, cs, r, t, ⟨by rw [cup_ne n1]; exact h.at_, by rw [cup_ne n2]; exact h.large, by rw [cup_ne n3]; exact h.cells, fun a u e => ?_, by rw [cup_ne n1]; exact m1, by rw [cup_ne n2]; exact m2, by rw [cup_ne n3]; exact m3, h.lc⟩, h2⟩
  by_cases z : a = p
  · subst z; rw [cup_same] at e ⊢; exact e
  · rw [cup_ne z] at e ⊢
    exact h.sub a u (by rw [cup_ne z]; exact e)
theorem height_ok : ∀ (r n : Nat) (v : Vv) (C : CH) (Q : Kv) (E : Kx), v.h ≤ r → Q (.int v.h) C → W (n + r + 1) i__law_height [v.t.d] C Q E := by
  intro r
  induction r with
  | zero =>
    intro n v C Q E hh hq
    rw [W__law_height]
    unfold b__law_height
    cases v with
    | item i => simp_arith! [Vv.t, T.d, GG_kit]; exact ⟨C, Sub.refl, hq⟩
    | app1 z a => have := a.h_nonneg; simp only [Vv.h] at hh; omega
    | app2 z a b => have := a.h_nonneg; have := b.h_nonneg; simp only [Vv.h] at hh; split at hh <;> omega
  | succ r ih =>
    intro n v C Q E hh hq
    rw [W__law_height]
    unfold b__law_height
    cases v with
    | item i => simp_arith! [Vv.t, T.d, GG_kit]; exact ⟨C, Sub.refl, hq⟩
    | app1 z a =>
      simp only [Vv.h] at hh
      simp_arith! [Vv.t, T.d, T.ds, GG_kit, cLc, iSeq, lcL, wipe3, cutD_tail, cYes, GG_call, List.nil_append]
      refine ih n a C _ _ (by omega) ?_
      intro p hp
      refine oMaxL1 cup_same ?_
      exact ⟨C, sub_new hp, hq⟩
    | app2 z a b =>
      have ha : a.h ≤ r := by simp only [Vv.h] at hh; split at hh <;> omega
      have hb : b.h ≤ r := by simp only [Vv.h] at hh; split at hh <;> omega
      simp_arith! [Vv.t, T.d, T.ds, GG_kit, cLc, iSeq, lcL, wipe3, cutD_tail, cYes, GG_call, List.nil_append, List.cons_append]
      refine ih n a C _ _ (by omega) ?_
      refine ih n b C _ _ (by omega) ?_
      intro p hp
      refine oMaxL2 cup_same ?_
      exact ⟨C, sub_new hp, hq⟩
/-- drawn values: an item of the level, or one of the terms -/
structure Terms (vs : List Vv) : Prop where
  good : ∀ v ∈ vs, v.good ∧ v.h ≤ 4 ∧ v.top ≤ 3
  len : vs.length ≤ 100
theorem Terms.ok {vs : List Vv} (h : Terms vs) : ∀ t ∈ vs.map Vv.t, okT t = true ∧ t.p.depth ≤ 300 := fun t ht => by
  obtain ⟨v, hv, rfl⟩ := List.mem_map.mp ht
  obtain ⟨g, hh, _⟩ := h.good v hv
  obtain ⟨h1, h2, _⟩ := ok_vv v g
  exact ⟨h1, by omega⟩
theorem value_ok {n N : Nat} {C0 C : CH} {s p : Addr} {lv : Int} {vs : List Vv} {Q : Kv} {E : Kx} (h : St C0 C s (N + 3)) (hp : C0 p = some (.lst (vds vs))) (hv : Terms vs) (l1 : 1 ≤ lv) (l3 : lv ≤ 3)
    (hq : ∀ (v : Vv) C', (v ∈ vs ∨ ∃ i, v = .item i ∧ 1 ≤ i ∧ i ≤ lv) → St C0 C' s N → Q v.t.d C') : W (n + 3) i__law_value [.ref s, .int lv, .ref p] C Q E := by
  rw [W__law_value]
  unfold b__law_value
  rw [rdSs_cons]
  simp_arith [oLst, GG_call]
  intro r hr
  have hr0 : C0 r = none := by
    cases e : C0 r with
    | none => rfl
    | some u => rw [h.subC _ _ e] at hr; cases hr
  have h1 := h.alloc (o := .lst []) hr
  refine ts_ne hv.ok (cup_old hr (h.subC _ _ hp)) cup_same ?_
  have h1 := h1.drop (sub_new hr0)
  generalize cup C r (.lst []) = C1 at h1
  have tail : ∀ C', St C0 C' s (N + 2) → rdSs (GG (n + 2)) (exN E) (b__law_value.drop 1) (endN Q) [some (.ref s), some (.int lv), some (.ref p)] C' := by
    intro C' h'
    simp only [b__law_value, List.drop]
    simp_arith! [oLst, GG_call]
    refine draw_ok (N := N + 1) h' (by omega) (by omega) fun k C2 k1 k2 h2 => ?_
    intro q hq0
    have hq00 : C0 q = none := by
      cases e : C0 q with
      | none => rfl
      | some u => rw [h2.subC _ _ e] at hq0; cases hq0
    refine pick_ok (n := n) (N := N) (h2.alloc hq0) cup_same (by simp) (by simp) fun d C3 hd h3 => ?_
    have h3 := h3.drop (sub_new hq00)
    simp only [List.mem_cons, List.not_mem_nil, or_false] at hd
    rcases hd with e | e | e <;> (subst e; refine ⟨C3, Sub.refl, ?_⟩)
    · exact hq (.item lv) C3 (.inr ⟨lv, rfl, l1, Int.le_refl _⟩) h3
    · exact hq (.item lv) C3 (.inr ⟨lv, rfl, l1, Int.le_refl _⟩) h3
    · exact hq (.item (1 + k)) C3 (.inr ⟨1 + k, rfl, by omega, by omega⟩) h3
  by_cases hn : vs = []
  · subst hn
    simp_arith [List.map_nil, List.isEmpty]
    exact tail _ (h1.less (k := 1))
  · have e1 : (vs.map Vv.t).isEmpty = false := by cases vs <;> simp_all
    rw [e1]
    simp_arith []
    refine draw_ok (N := N + 2) h1 (by omega) (by omega) fun k C2 k1 k2 h2 => ?_
    by_cases hk : k = 0
    · subst hk
      have hp2 : C2 p = some (.lst (vds vs)) := h2.subC _ _ hp
      have hne : vds vs ≠ [] := by rw [vds_map]; simpa using hn
      have hla : L2.atI (vds vs) (-1) = some ((vds vs).getLast hne) := atI_last hne
      have hlm : ∀ d ∈ vds vs, ∃ v ∈ vs, d = v.t.d := fun d hd => by
        rw [vds_map] at hd
        obtain ⟨v, hv, e⟩ := List.mem_map.mp hd
        exact ⟨v, hv, e.symm⟩
      simp_arith [decide_true]
      rw [rdSs_cons]
      simp_arith [oLst, GG_call]
      refine oIxA_lst hp2 hla (oIxA_lst hp2 hla ?_)
      have hlen : (vds vs).length = vs.length := by rw [vds_map, List.length_map]
      have hpos : 0 < vs.length := List.length_pos_iff.mpr hn
      refine pick_ok (n := n) (N := N + 1) h2 hp (by omega) (by have := hv.len; omega) fun d C3 hd h3 => ?_
      intro q hq0
      have hq00 : C0 q = none := by
        cases e : C0 q with
        | none => rfl
        | some u => rw [h3.subC _ _ e] at hq0; cases hq0
      refine pick_ok (n := n) (N := N) (h3.alloc hq0) cup_same (by simp) (by simp) fun d' C4 hd' h4 => ?_
      have h4 := h4.drop (sub_new hq00)
      have hm : d' ∈ vds vs := by
        simp only [List.mem_cons, List.not_mem_nil, or_false] at hd'
        rcases hd' with e | e | e
        · rw [e]; exact List.getLast_mem hne
        · rw [e]; exact List.getLast_mem hne
        · rw [e]; exact hd
      obtain ⟨v, hv', rfl⟩ := hlm d' hm
      exact ⟨C4, Sub.refl, hq v C4 (.inl hv') h4⟩
    · simp_arith [hk, decide_false]
      exact tail _ h2
structure Names (zs : List Str) : Prop where
  good : ∀ z ∈ zs, goodNm z
  pos : 1 ≤ zs.length
  len : zs.length ≤ 100
/-- a drawn term -/
structure FitV (v : Vv) (lv : Int) (kn : Kn) : Prop where
  good : v.good
  h : v.h ≤ 4
  top : v.top ≤ lv
  fit : v.fit lv kn
theorem FitV.t {v : Vv} {lv : Int} {kn : Kn} (h : FitV v lv kn) (l3 : lv ≤ 3) : fitT v.t lv kn := ⟨v, rfl, h.good, h.h, by have := h.top; omega, h.fit⟩
theorem term_ok {n N : Nat} {C0 C : CH} {s pn pc : Addr} {lv : Int} {kn : Kn} {zs : List Str} {vs : List Vv} {Q : Kv} {E : Kx} (h : St C0 C s (N + 8)) (hn : C0 pn = some (.lst (zs.map D.str))) (hz : Names zs) (hc : C0 pc = some (.lst (vds vs))) (hv : Terms vs) (ht : ∀ v ∈ vs, kn.has v)
    (kl : ∀ v ∈ vs, v.top ≤ lv) (l1 : 1 ≤ lv) (l3 : lv ≤ 3) (hq : ∀ (v : Vv) C', FitV v lv kn → St C0 C' s N → Q v.t.d C') : W (n + 6) i__law_term [.ref s, .ref pn, .int lv, .ref pc] C Q E := by
  rw [W__law_term]
  unfold b__law_term
  have h100 : (1000 : Nat) ≤ sizeLine := by decide
  rw [rdSs_cons]
  simp_arith [cLc, iSeq]
  have hcC := h.subC _ _ hc
  refine ⟨_, hcC, ?_⟩
  rw [vds_map]
  rw [vds_map] at hcC
  refine lcL_if (fun v : Vv => v.t.d) (fun v : Vv => v.t.d) (fun v : Vv => decide (v.h < 4)) (G := fun C => C pc = some (.lst (vs.map fun v => v.t.d))) hcC vs (fun v hv' => ⟨_, rfl, fun Q' hQ => ?_, fun Q' hQ => ?_⟩) (by have := hv.len; omega) ?_
  · simp_arith! [wipe3, GG_call]
    refine height_ok 4 n v C _ _ (hv.good v hv').2.1 ?_
    simp_arith! []
    exact hQ
  · simp_arith! [wipe3]
    exact hQ
  · intro pl hpl
    have hpl0 := h.no hpl
    have h1 := h.alloc (o := .lst ((vs.filter fun v => decide (v.h < 4)).map fun v => v.t.d)) hpl
    have hn1 : ∀ o, cup C0 pl o pn = some (.lst (zs.map D.str)) := fun o => cup_old hpl0 hn
    have hl1 : cup C0 pl (.lst ((vs.filter fun v => decide (v.h < 4)).map fun v => v.t.d)) pl = some (.lst (vds (vs.filter fun v => decide (v.h < 4)))) := by rw [cup_same, vds_map]
    have hlow : Terms (vs.filter fun v => decide (v.h < 4)) := ⟨fun v hv' => hv.good v (List.mem_filter.mp hv').1, Nat.le_trans (List.length_filter_le _ _) hv.len⟩
    have hlow4 : ∀ v ∈ vs.filter fun v => decide (v.h < 4), v.h < 4 ∧ v ∈ vs := fun v hv' => ⟨of_decide_eq_true (List.mem_filter.mp hv').2, (List.mem_filter.mp hv').1⟩
    generalize (vs.filter fun v => decide (v.h < 4)) = low at h1 hl1 hlow hlow4
    rw [rdSs_cons]
    simp_arith [cLc, iRg1, GG_call]
    generalize hC1 : cup C0 pl (.lst (low.map fun v => v.t.d)) = C1 at h1 hl1
    have hn1 : C1 pn = some (.lst (zs.map D.str)) := by rw [← hC1]; exact hn1 _
    have s01 : Sub C0 C1 := by rw [← hC1]; exact sub_new hpl0
    refine draw_ok (n := n + 4) (N := N + 7) h1 (by decide) (by decide) fun k C2 k1 k2 h2 => ?_
    obtain ⟨j, rfl⟩ : ∃ j : Nat, k = j := ⟨k.toNat, by omega⟩
    refine ⟨_, rfl, by omega, by omega, ?_⟩
    have hjt : (rngD 0 (1 + (j : Int)).toNat).length = 1 + j := by simp [rngD]; omega
    refine lcL_run (fun k C => St C1 C s (N + 1 + 3 * k)) (fun d => ∃ v : Vv, d = v.t.d ∧ v.good ∧ v.h ≤ 3 ∧ v.top ≤ lv ∧ v.use lv kn) (fun _ _ _ => trivial) _ [] C2 ?_ (fun _ h => nomatch h) ?_ ?_ ?_
    · rw [hjt]; exact St.less (k := 6 - 3 * (1 + j)) (by rw [show N + 1 + 3 * (1 + j) + (6 - 3 * (1 + j)) = N + 7 by omega]; exact h2)
    · rw [hjt]; simp only [List.length_nil]; omega
    · intro acc C3 h3 hla hR p hp
      rw [hjt] at hla
      simp only [List.length_nil, Nat.zero_add] at hla
      have hp1 := h3.no hp
      have h4 := St.alloc (o := .lst acc) h3 hp
      have hacc : cup C1 p (.lst acc) p = some (.lst acc) := cup_same
      have hn4 : cup C1 p (.lst acc) pn = some (.lst (zs.map D.str)) := cup_old hp1 hn1
      have s04 : Sub C0 (cup C1 p (.lst acc)) := s01.trans (sub_new hp1)
      generalize cup C1 p (.lst acc) = C4 at h4 hacc hn4 s04
      simp_arith! [GG_call]
      refine pick_ok (n := n + 3) (N := N) h4 hn4 (by rw [List.length_map]; exact hz.pos) (by rw [List.length_map]; have := hz.len; omega) fun d C5 hd h5 => ?_
      obtain ⟨z, hz', rfl⟩ := List.mem_map.mp hd
      have gz := hz.good z hz'
      refine ⟨_, acc, rfl, SqC_ref.mpr (h5.subC _ _ hacc), ?_⟩
      have h6 := h5.drop s04
      match acc, hla, hR with
      | [d1], _, hR =>
        obtain ⟨a, rfl, a1, a2, a3, a4⟩ := hR d1 (by simp)
        simp_arith! []
        refine ⟨C5, Sub.refl, hq (.app1 z a) C5 ⟨⟨gz, a1⟩, by simp only [Vv.h]; omega, a3, a4⟩ h6⟩
      | [d1, d2], _, hR =>
        obtain ⟨a, rfl, a1, a2, a3, a4⟩ := hR d1 (by simp)
        obtain ⟨b, rfl, b1, b2, b3, b4⟩ := hR d2 (by simp)
        simp_arith! []
        refine ⟨C5, Sub.refl, hq (.app2 z a b) C5 ⟨⟨gz, a1, b1⟩, by simp only [Vv.h]; split <;> omega, by simp only [Vv.top]; split <;> omega, a4, b4⟩ h6⟩
      | [], hl, _ => simp only [List.length_nil] at hl; omega
      | _ :: _ :: _ :: _, hl, _ => simp only [List.length_cons] at hl; omega
    · intro d hd k C3 h3
      refine ⟨_, rfl, fun Q' hQ => ?_⟩
      simp_arith! [wipe3, GG_call]
      refine value_ok (n := n + 2) (N := N + 1 + 3 * k) (by rw [show N + 1 + 3 * k + 3 = N + 1 + 3 * (k + 1) by omega]; exact h3) hl1 hlow l1 l3 fun v C4 hv' h4 => hQ _ _ ⟨v, rfl, ?_⟩ h4
      rcases hv' with hv' | ⟨i, rfl, i1, i2⟩
      · obtain ⟨g1, g2, g3⟩ := hlow.good v hv'
        obtain ⟨g4, g5⟩ := hlow4 v hv'
        have g6 := ht v g5
        have g7 := kl v g5
        refine ⟨g1, by omega, by omega, ?_⟩
        cases v with
        | item i => simp only [Vv.use, Vv.top] at *; omega
        | app1 z a => exact g6
        | app2 z a b => exact g6
      · exact ⟨i1, by simp [Vv.h], i2, i2⟩
theorem ask_d {t : T} {w : Bool} : (Cn.ask t w).t.d = .tup [.str "ask", t.d, .bl w] := by simp only [Cn.t, T.d, T.ds]
theorem qu_d {a : Bool} {t : T} {c : Cn} : (Cn.qu a t c).t.d = .tup [.str (qw a), t.d, c.t.d] := by simp only [Cn.t, T.d, T.ds]
theorem con_d {a : Bool} {ps : List Cn} : (Cn.con a ps).t.d = .tup [.str (cw a), .tup (ps.map fun c => c.t.d)] := by simp only [Cn.t, T.d, T.ds, ds_ts]
theorem qw_mem {d : D} (h : d ∈ [D.str (Str.ofString "any"), D.str (Str.ofString "all")]) : ∃ a, d = .str (qw a) := by
  simp only [List.mem_cons, List.not_mem_nil, or_false] at h
  rcases h with e | e
  · exact ⟨true, e⟩
  · exact ⟨false, e⟩
theorem cw_mem {d : D} (h : d ∈ [D.str (Str.ofString "and"), D.str (Str.ofString "or")]) : ∃ a, d = .str (cw a) := by
  simp only [List.mem_cons, List.not_mem_nil, or_false] at h
  rcases h with e | e
  · exact ⟨true, e⟩
  · exact ⟨false, e⟩
theorem names_of : ∀ (ds : List D), (∀ d ∈ ds, ∃ z, d = D.str z ∧ goodNm z) → ∃ zs : List Str, ds = zs.map D.str ∧ ∀ z ∈ zs, goodNm z
  | [], _ => ⟨[], rfl, fun _ h => nomatch h⟩
  | d :: ds, h => by
    obtain ⟨zs, e, g⟩ := names_of ds fun x hx => h x (List.mem_cons_of_mem _ hx)
    obtain ⟨z, e2, g2⟩ := h d List.mem_cons_self
    refine ⟨z :: zs, by rw [e, e2]; rfl, fun y hy => ?_⟩
    rcases List.mem_cons.mp hy with r | r
    · rw [r]; exact g2
    · exact g y r
/-- what a drawn condition is -/
structure Drawn (c : Cn) (lv : Int) (kn : Kn) (r : Nat) : Prop where
  fit : fitC c lv kn
  asks : asks c ≤ r
  size : csize c + 1 ≤ 2 * r
  ht : ht c ≤ r
theorem drawn_con {a : Bool} {lv : Int} {kn : Kn} {r q : Nat} : ∀ {cs : List Cn}, (∀ c ∈ cs, Drawn c lv kn q) → fitCs cs lv kn ∧ askss cs ≤ cs.length * q ∧ csizes cs + cs.length ≤ 2 * (cs.length * q) ∧ hts cs ≤ q
  | [], _ => ⟨trivial, by simp [askss], by simp [csizes], by simp [hts]⟩
  | c :: cs, h => by
    obtain ⟨h1, h2, h3, h4⟩ := drawn_con (a := a) (r := r) fun x hx => h x (List.mem_cons_of_mem _ hx)
    have d := h c List.mem_cons_self
    have d2 := d.asks
    have d3 := d.size
    have d4 := d.ht
    refine ⟨⟨d.fit, h1⟩, ?_, ?_, ?_⟩
    · simp only [askss, List.length_cons, Nat.add_mul]; omega
    · simp only [csizes, List.length_cons, Nat.add_mul, Nat.mul_add]; omega
    · simp only [hts]; omega
theorem cond_ok : ∀ (r m N : Nat) (C0 C : CH) (s pn pc : Addr) (lv : Int) (kn : Kn) (zs : List Str) (vs : List Vv) (Q : Kv) (E : Kx), 1 ≤ r → r ≤ m + 1 → r ≤ 1000 → St C0 C s (N + 24 * r) → C0 pn = some (.lst (zs.map D.str)) → Names zs → C0 pc = some (.lst (vds vs)) → Terms vs → (∀ v ∈ vs, kn.has v) → (∀ v ∈ vs, v.top ≤ lv) → 1 ≤ lv → lv ≤ 3 →
    (∀ (c : Cn) C', Drawn c lv kn r → St C0 C' s (N + 4) → Q c.t.d C') → W (m + 7) i__law_condition [.ref s, .ref pn, .int lv, .ref pc, .int r] C Q E := by
  intro r
  induction r using Nat.strongRecOn with
  | ind r ih =>
  intro m N C0 C s pn pc lv kn zs vs Q E r1 rm rK h hn hz hc hv ht kl l1 l3 hq
  rw [W__law_condition]
  unfold b__law_condition
  have key : ∀ (way : Int) (C1 : CH), St C0 C1 s (N + 24 * r - 1) → (2 ≤ way → 2 ≤ r) → rdSs (GG (m + 6)) (exN E) (b__law_condition.drop 1) (endN Q) [some (.ref s), some (.ref pn), some (.int lv), some (.ref pc), some (.int r), some (.int way), none, none, none, none] C1 := by
    intro way C1 h1 hw
    simp only [b__law_condition, List.drop]
    rw [rdSs_cons]
    simp_arith []
    by_cases c1 : 4 < way ∧ lv < 3
    · obtain ⟨c1, c2⟩ := c1
      have hr2 := hw (by omega)
      obtain ⟨k, rfl⟩ : ∃ k, m = k + 1 := ⟨m - 1, by omega⟩
      rw [if_pos (decide_eq_true c1), if_pos (decide_eq_true c2)]
      rw [rdSs_cons]
      simp_arith [GG_call]
      have e1 : (r : Int) - 1 = ((r - 1 : Nat) : Int) := by omega
      rw [e1]
      refine ih (r - 1) (by omega) k (N + 19) C0 C1 s pn pc (lv + 1) kn zs vs _ _ (by omega) (by omega) (by omega) (h1.le (by omega)) hn hz hc hv ht (fun v hv' => by have := kl v hv'; omega) (by omega) (by omega) fun c C2 hd h2 => ?_
      rw [rdSs_cons]
      simp_arith [oLst, GG_call]
      intro q hq0
      refine pick_ok (n := k + 5) (N := N + 22) (h2.alloc hq0) cup_same (by simp) (by simp) fun d C3 hd' h3 => ?_
      have h3 := h3.drop (sub_new (h2.no hq0))
      refine term_ok (n := k + 1) (N := N + 14) (C0 := C0) (lv := lv) (kn := kn) (h3.le (by omega)) hn hz hc hv ht kl l1 l3 fun v C4 fv h4 => ?_
      obtain ⟨a, rfl⟩ := qw_mem hd'
      have d1 := hd.asks
      have d2 := hd.size
      have d3 := hd.ht
      have fin := hq (.qu a v.t c) C4 ⟨⟨fv.t l3, by omega, hd.fit⟩, by simp only [asks]; omega, by simp only [csize]; omega, by simp only [My.ht]; omega⟩ (h4.le (by omega))
      rw [qu_d] at fin
      exact ⟨C4, Sub.refl, fin⟩
    · have hif : ∀ (X Y : Prop), (if decide (4 < way) = true then (if decide (lv < 3) = true then X else Y) else Y) ↔ Y := by
        intro X Y
        by_cases q1 : 4 < way
        · have q2 : ¬ lv < 3 := fun z => c1 ⟨q1, z⟩
          simp [q1, q2]
        · simp [q1]
      rw [hif]
      rw [rdSs_cons]
      simp_arith []
      by_cases c2 : way < 2 ∨ 4 < way
      · have hif2 : ∀ (X Y : Prop), (if decide (way < 2) = true then X else if decide (4 < way) = true then X else Y) ↔ X := by
          intro X Y
          rcases c2 with q | q
          · simp [q]
          · simp [q]
        rw [hif2]
        rw [rdSs_cons]
        simp_arith [GG_call]
        refine term_ok (n := m) (N := N + 14) (C0 := C0) (lv := lv) (kn := kn) (h1.le (by omega)) hn hz hc hv ht kl l1 l3 fun v C2 fv h2 => ?_
        refine draw_ok (n := m + 5) (N := N + 13) h2 (by decide) (by decide) fun k C3 _ _ h3 => ?_
        have fin := hq (.ask v.t (decide (k = 0))) C3 ⟨fv.t l3, by simp only [asks]; omega, by simp only [csize]; omega, by simp only [My.ht]; omega⟩ (h3.le (by omega))
        rw [ask_d] at fin
        simp_arith []
        exact ⟨C3, Sub.refl, fin⟩
      · have hif2 : ∀ (X Y : Prop), (if decide (way < 2) = true then X else if decide (4 < way) = true then X else Y) ↔ Y := by
          intro X Y
          have q1 : ¬ way < 2 := fun z => c2 (.inl z)
          have q2 : ¬ 4 < way := fun z => c2 (.inr z)
          simp [q1, q2]
        rw [hif2]
        have hr2 := hw (by omega)
        obtain ⟨j, rfl⟩ : ∃ j, m = j + 1 := ⟨m - 1, by omega⟩
        rw [rdSs_cons]
        simp_arith [GG_call, oMin2]
        refine ⟨_, _, ⟨rfl, rfl⟩, ?_⟩
        refine draw_ok (n := j + 6) (N := N + 24 * r - 2) (h1.le (by omega)) (by split <;> omega) (by split <;> omega) fun k C2 k0 k2 h2 => ?_
        obtain ⟨kk, rfl⟩ : ∃ kk : Nat, k = kk := ⟨k.toNat, by omega⟩
        have km : kk ≤ 1 ∧ 2 + kk ≤ r := by split at k2 <;> omega
        obtain ⟨q, hq0⟩ : ∃ q : Nat, q = r / (2 + kk) := ⟨_, rfl⟩
        have hqr : (2 + kk) * q ≤ r := by rw [hq0]; exact Nat.mul_div_le r (2 + kk)
        have hq1 : 1 ≤ q := by rw [hq0]; exact (Nat.one_le_div_iff (by omega)).mpr km.2
        have hqr1 : q < r := by rw [hq0]; exact Nat.div_lt_self (by omega) (by omega)
        have efd : Int.fdiv (r : Int) (2 + (kk : Int)) = (q : Int) := by
          rw [hq0, show (2 : Int) + (kk : Int) = ((2 + kk : Nat) : Int) by omega, Int.fdiv_eq_ediv_of_nonneg _ (by omega)]
          exact (Int.natCast_ediv _ _).symm
        simp_arith []
        rw [rdSs_cons]
        simp_arith [cLc, iRg1, GG_call]
        refine ⟨by omega, by omega, ?_⟩
        have hjt : (rngD 0 (2 + (kk : Int)).toNat).length = 2 + kk := by simp [rngD]; omega
        have h1000 : (1000 : Nat) ≤ sizeLine := by decide
        have hB : 24 * ((2 + kk) * q) ≤ 24 * r := by omega
        refine lcL_run (fun k C => St C0 C s (N + 6 + (24 * q - 4) * k)) (fun d => ∃ c, d = c.t.d ∧ Drawn c lv kn q) (fun _ _ _ => trivial) _ [] C2 ?_ (fun _ h => nomatch h) ?_ ?_ ?_
        · rw [hjt]
          refine h2.le ?_
          have e : (24 * q - 4) * (2 + kk) + 4 * (2 + kk) = 24 * ((2 + kk) * q) := by
            rw [← Nat.add_mul, show 24 * q - 4 + 4 = 24 * q by omega, Nat.mul_assoc, Nat.mul_comm q]
          omega
        · rw [hjt]; simp only [List.length_nil]; omega
        · intro acc C3 h3 hla hR p hp
          rw [hjt] at hla
          simp only [List.length_nil, Nat.zero_add] at hla
          obtain ⟨cs, rfl, hcs⟩ : ∃ cs : List Cn, acc = cs.map (fun c => c.t.d) ∧ ∀ c ∈ cs, Drawn c lv kn q := by
            clear hla hp
            induction acc with
            | nil => exact ⟨[], rfl, fun _ h => nomatch h⟩
            | cons a acc ih =>
              obtain ⟨cs, e, h⟩ := ih fun d hd => hR d (List.mem_cons_of_mem _ hd)
              obtain ⟨c, e2, hc⟩ := hR a List.mem_cons_self
              refine ⟨c :: cs, by rw [e, e2]; rfl, fun x hx => ?_⟩
              rcases List.mem_cons.mp hx with z | hx
              · rw [z]; exact hc
              · exact h x hx
          rw [List.length_map] at hla
          have h4 := St.alloc (o := .lst (cs.map fun c => c.t.d)) h3 hp
          have hacc : cup C0 p (.lst (cs.map fun c => c.t.d)) p = some (.lst (cs.map fun c => c.t.d)) := cup_same
          have s04 := sub_new (o := .lst (cs.map fun c => c.t.d)) (h3.no hp)
          generalize cup C0 p (.lst (cs.map fun c => c.t.d)) = C4 at h4 hacc s04
          simp_arith! [oLst, GG_call]
          intro pq hpq
          refine pick_ok (n := j + 5) (N := N + 5) ((h4.alloc hpq).le (by omega)) cup_same (by simp) (by simp) fun d C5 hd' h5 => ?_
          have h5 := h5.drop (sub_new (h4.no hpq))
          obtain ⟨a, rfl⟩ := cw_mem hd'
          refine ⟨_, _, rfl, SqC_ref.mpr (h5.subC _ _ hacc), ?_⟩
          obtain ⟨f1, f2, f3, f4⟩ := drawn_con (a := a) (r := r) hcs
          rw [hla] at f2 f3
          have fin := hq (.con a cs) C5 ⟨⟨by omega, f1⟩, by simp only [asks]; omega, by simp only [csize]; omega, by simp only [My.ht]; omega⟩ ((h5.drop s04).le (by omega))
          rw [con_d] at fin
          exact ⟨C5, Sub.refl, fin⟩
        · intro d hd k C3 h3
          refine ⟨_, rfl, fun Q' hQ => ?_⟩
          simp_arith! [wipe3, GG_call]
          refine ⟨⟨by omega, by omega⟩, ?_⟩
          rw [efd]
          refine ih q hqr1 j (N + 2 + (24 * q - 4) * k) C0 C3 s pn pc lv kn zs vs _ _ hq1 (by omega) (by omega) (h3.le ?_) hn hz hc hv ht kl l1 l3 fun c C4 hd4 h4 => hQ _ _ ⟨c, rfl, hd4⟩ (h4.le (by omega))
          rw [Nat.mul_succ]; omega
  rw [rdSs_cons]
  simp_arith [GG_call]
  by_cases hr : 1 < (r : Int)
  · rw [if_pos (decide_eq_true hr)]
    refine draw_ok (n := m + 5) (N := N + 24 * r - 1) (h.le (by omega)) (by decide) (by decide) fun k C1 _ _ h1 => ?_
    exact key k C1 h1 fun _ => by omega
  · rw [if_neg (by simp [hr])]
    exact key 0 C (h.le (by omega)) fun z => by omega
inductive Cv where
  | ask (v : Vv) (w : Bool) | con (a : Bool) (ps : List Cv) | qu (a : Bool) (v : Vv) (c : Cv)
mutual
noncomputable def Cv.cn : Cv → Cn
  | .ask v w => .ask v.t w
  | .con a ps => .con a (Cv.cns ps)
  | .qu a v c => .qu a v.t c.cn
noncomputable def Cv.cns : List Cv → List Cn
  | [] => []
  | c :: cs => c.cn :: Cv.cns cs
end
noncomputable def isApp : Vv → Bool
  | .item _ => false
  | _ => true
mutual
noncomputable def CG : Cv → Prop
  | .ask v _ => Good 4 v ∧ isApp v = true
  | .con _ ps => 2 ≤ ps.length ∧ CGs ps
  | .qu _ v c => (Good 4 v ∧ isApp v = true) ∧ CG c
noncomputable def CGs : List Cv → Prop
  | [] => True
  | c :: cs => CG c ∧ CGs cs
end
theorem Cv.cns_len : ∀ cs : List Cv, (Cv.cns cs).length = cs.length
  | [] => rfl
  | c :: cs => by rw [Cv.cns, List.length_cons, Cv.cns_len cs, List.length_cons]
theorem CGs.mem : ∀ {cs : List Cv}, CGs cs → ∀ c ∈ cs, CG c
  | c :: cs, h, x, hx => by
    rcases List.mem_cons.mp hx with e | hx
    · rw [e]; exact h.1
    · exact CGs.mem h.2 x hx
theorem fitT.app {t : T} {at_ : Int} {kn : Kn} (h : fitT t at_ kn) : ∃ v : Vv, t = v.t ∧ Good 4 v ∧ isApp v = true := by
  obtain ⟨v, e, g, hh, ht, f⟩ := h.ex
  refine ⟨v, e, ⟨g, ht, hh⟩, ?_⟩
  cases v with
  | item i => exact f.elim
  | _ => rfl
mutual
theorem cv_of : ∀ (c : Cn) (at_ : Int) (kn : Kn), fitC c at_ kn → ∃ cv : Cv, c = cv.cn ∧ CG cv
  | .ask t w, at_, kn, h => by
    obtain ⟨v, e, g, a⟩ := fitT.app h
    exact ⟨.ask v w, by rw [e]; rfl, g, a⟩
  | .con a ps, at_, kn, h => by
    obtain ⟨cs, e, g⟩ := cvs_of ps at_ kn h.2
    refine ⟨.con a cs, by rw [e]; rfl, ?_, g⟩
    have := h.1
    rw [e, Cv.cns_len] at this
    omega
  | .qu a t c, at_, kn, h => by
    obtain ⟨v, e, g, b⟩ := fitT.app h.1
    obtain ⟨cv, e2, g2⟩ := cv_of c _ kn h.2.2
    exact ⟨.qu a v cv, by rw [e, e2]; rfl, ⟨g, b⟩, g2⟩
theorem cvs_of : ∀ (cs : List Cn) (at_ : Int) (kn : Kn), fitCs cs at_ kn → ∃ cvs : List Cv, cs = Cv.cns cvs ∧ CGs cvs
  | [], at_, kn, h => ⟨[], rfl, trivial⟩
  | c :: cs, at_, kn, h => by
    obtain ⟨v, e, g⟩ := cv_of c at_ kn h.1
    obtain ⟨vs, e2, g2⟩ := cvs_of cs at_ kn h.2
    exact ⟨v :: vs, by rw [e, e2]; rfl, g, g2⟩
end
noncomputable def lAnd : List Nat := [97, 110, 100]
noncomputable def lOr : List Nat := [111, 114]
noncomputable def lNot : List Nat := [110, 111, 116]
noncomputable def cwl (a : Bool) : List Nat := if a then lAnd else lOr
noncomputable def qwl (a : Bool) : List Nat := if a then [97, 110, 121] else [97, 108, 108]
/-- the mark between the parts -/
noncomputable def mkl (a : Bool) : List Nat := 32 :: (cwl a ++ [32])
noncomputable def lcol : List Nat := [58, 32]
/-- a part stands in parentheses -/
noncomputable def inP (a : Bool) : Cv → Bool
  | .con b _ => a || !b
  | _ => false
noncomputable def wrp (b : Bool) (l : List Nat) : List Nat := if b then 40 :: (l ++ [41]) else l
mutual
noncomputable def tc : Cv → List Nat
  | .ask v w => if w then tx v else lNot ++ 32 :: tx v
  | .con a ps => TL.joinL (mkl a) (tcs a ps)
  | .qu a v c => qwl a ++ 40 :: ((tx v ++ 58 :: 32 :: tc c) ++ [41])
noncomputable def tcs (a : Bool) : List Cv → List (List Nat)
  | [] => []
  | c :: cs => wrp (inP a c) (tc c) :: tcs a cs
end
theorem tcs_map (a : Bool) : ∀ cs : List Cv, tcs a cs = cs.map fun c => wrp (inP a c) (tc c)
  | [] => rfl
  | c :: cs => by rw [tcs, tcs_map a cs, List.map_cons]
theorem sgn_ne {c : Nat} (h : sgn c = true) : c ≠ 40 ∧ c ≠ 41 ∧ c ≠ 32 ∧ c ≠ 58 := by
  refine ⟨?_, ?_, ?_, ?_⟩
  · rintro rfl; rw [sg40] at h; cases h
  · rintro rfl; rw [sg41] at h; cases h
  · rintro rfl; rw [sg32] at h; cases h
  · rintro rfl
    have : sgn 58 = false := by decide +kernel
    rw [this] at h; cases h
/-- what is known of a text that is passed whole -/
structure VT (y : List Nat) : Prop where
  bal : Bal y
  col : ∀ r, Scan lcol 0 y r 0
theorem VT.item {i : Int} (h1 : 1 ≤ i) (h3 : i ≤ 3) : VT (itemT i) := by
  obtain ⟨_, a, b⟩ := itemOf_item h1 h3
  exact ⟨bal_flat fun c hc => ⟨(b c hc).1, (b c hc).2.1⟩, fun r => scan_flat rfl fun c hc => ⟨(b c hc).1, (b c hc).2.1, (sgn_ne (a c hc)).2.2.2⟩⟩
theorem VT.form {z l : List Nat} (hz : ∀ c ∈ z, sgn c = true) (h : Bal l) : VT (z ++ 40 :: (l ++ [41])) :=
  ⟨(bal_flat fun c hc => ⟨(sgn_ne (hz c hc)).1, (sgn_ne (hz c hc)).2.1⟩).app h.wrap, fun r => (scan_flat rfl fun c hc => ⟨(sgn_ne (hz c hc)).1, (sgn_ne (hz c hc)).2.1, (sgn_ne (hz c hc)).2.2.2⟩).append (scan_wrap h (by decide) (by decide))⟩
theorem VT.app {a b : List Nat} (ha : VT a) (hb : VT b) : VT (a ++ b) := ⟨ha.bal.app hb.bal, fun r => (ha.col _).append (hb.col r)⟩
theorem VT.flat {l : List Nat} (h : ∀ c ∈ l, c ≠ 40 ∧ c ≠ 41 ∧ c ≠ 58) : VT l := ⟨bal_flat fun c hc => ⟨(h c hc).1, (h c hc).2.1⟩, fun r => scan_flat rfl h⟩
theorem VT.wrap {l : List Nat} (h : Bal l) : VT (40 :: (l ++ [41])) := ⟨h.wrap, fun r => scan_wrap h (by decide) (by decide)⟩
theorem vt_tx : ∀ (v : Vv) (r : Nat), Good r v → VT (tx v)
  | .item i, r, g => by obtain ⟨h1, h3⟩ := good_item.mp g; rw [tx]; exact .item h1 h3
  | .app1 z a, r, g => by
    obtain ⟨gz, k, rfl, ga⟩ := good_app1.mp g
    rw [tx]
    exact .form (nm_signs gz.1) (vt_tx a k ga).bal
  | .app2 z a b, r, g => by
    obtain ⟨gz, k, rfl, ga, gb⟩ := good_app2.mp g
    rw [tx]
    have e : tx a ++ (44 :: 32 :: (tx b ++ [41])) = (tx a ++ ([44, 32] ++ tx b)) ++ [41] := by simp
    rw [e]
    exact .form (nm_signs gz.1) ((vt_tx a k ga).app ((VT.flat (by decide)).app (vt_tx b k gb))).bal
/-- a term's text: a name and parentheses -/
theorem app_form {v : Vv} {r : Nat} (g : Good r v) (a : isApp v = true) : ∃ (z : Str) (l : List Nat), tx v = z.cps.toList ++ 40 :: (l ++ [41]) ∧ goodNm z ∧ VT l := by
  cases v with
  | item i => cases a
  | app1 z x =>
    obtain ⟨gz, k, rfl, ga⟩ := good_app1.mp g
    exact ⟨z, tx x, by rw [tx], gz, vt_tx x k ga⟩
  | app2 z x y =>
    obtain ⟨gz, k, rfl, ga, gb⟩ := good_app2.mp g
    exact ⟨z, tx x ++ ([44, 32] ++ tx y), by rw [tx]; simp, gz, (vt_tx x k ga).app ((VT.flat (by decide)).app (vt_tx y k gb))⟩
/-- a part that is passed by both marks, and begins with none of the words -/
structure US (y : List Nat) : Prop where
  scan : ∀ (a : Bool) (r : List Nat), Scan (mkl a) 0 y r 0
  fst : ∀ (a : Bool) (s : List Nat), (cwl a ++ [32]).isPrefixOf (y ++ s) = false
theorem cwl_sgn (a : Bool) : ∀ c ∈ cwl a, sgn c = true := by cases a <;> decide +kernel
theorem qwl_sgn (a : Bool) : ∀ c ∈ qwl a, sgn c = true := by cases a <;> decide +kernel
theorem US.form {z l : List Nat} (hz : ∀ c ∈ z, sgn c = true) (h : Bal l) : US (z ++ 40 :: (l ++ [41])) :=
  ⟨fun a r => (scan_flat (mark := mkl a) rfl fun c hc => ⟨(sgn_ne (hz c hc)).1, (sgn_ne (hz c hc)).2.1, (sgn_ne (hz c hc)).2.2.1⟩).append (scan_wrap h (by simp [mkl]) (by simp [mkl])),
   fun a s => by rw [List.append_assoc, List.cons_append]; exact not_begun (cwl_sgn a) hz⟩
theorem US.wrap {l : List Nat} (h : Bal l) : US (40 :: (l ++ [41])) :=
  ⟨fun a r => scan_wrap h (by simp [mkl]) (by simp [mkl]), fun a s => by cases a <;> simp [cwl, lAnd, lOr, List.isPrefixOf]⟩
theorem blank_scan {a : Bool} {y r : List Nat} (h : US y) : Scan (mkl a) 0 (32 :: y) r 0 := by
  refine .cons (.inr ?_) (by
    have e : (0 : Int) + side 32 = 0 := by decide
    rw [e]; exact h.scan a r)
  rw [mkl, List.isPrefixOf, h.fst a r, Bool.and_false]
theorem US.nott {y : List Nat} (h : US y) : US (lNot ++ 32 :: y) :=
  ⟨fun a r => (scan_flat (mark := mkl a) rfl (by decide)).append (blank_scan h), fun a s => by cases a <;> simp [cwl, lAnd, lOr, lNot, List.isPrefixOf]⟩
/-- parts joined by «and», passed by «or» -/
theorem scan_or_and : ∀ (ys : List (List Nat)), (∀ y ∈ ys, US y) → ys ≠ [] → (∀ r, Scan (mkl false) 0 (TL.joinL (mkl true) ys) r 0) ∧ (∀ s, (cwl false ++ [32]).isPrefixOf (TL.joinL (mkl true) ys ++ s) = false)
  | [], _, h => absurd rfl h
  | [y], h, _ => ⟨fun r => (h y (by simp)).scan false r, fun s => (h y (by simp)).fst false s⟩
  | y :: x :: ys, h, _ => by
    obtain ⟨i1, i2⟩ := scan_or_and (x :: ys) (fun z hz => h z (List.mem_cons_of_mem _ hz)) (by simp)
    have hy := h y (by simp)
    have e : TL.joinL (mkl true) (y :: x :: ys) = y ++ (mkl true ++ TL.joinL (mkl true) (x :: ys)) := rfl
    rw [e]
    refine ⟨fun r => (hy.scan false _).append ?_, fun s => by rw [List.append_assoc]; exact hy.fst false _⟩
    have e2 : mkl true ++ TL.joinL (mkl true) (x :: ys) = [32, 97, 110, 100] ++ (32 :: TL.joinL (mkl true) (x :: ys)) := rfl
    rw [e2]
    refine Scan.append (.cons (.inr (by simp [mkl, cwl, lOr, List.isPrefixOf])) (scan_flat (mark := mkl false) rfl (by decide))) ?_
    refine .cons (.inr ?_) (by
      have e : (0 : Int) + side 32 = 0 := by decide
      rw [e]; exact i1 r)
    rw [mkl, List.isPrefixOf, i2 r, Bool.and_false]
theorem VT.join {m : List Nat} (hm : VT m) : ∀ (ys : List (List Nat)), (∀ y ∈ ys, VT y) → VT (TL.joinL m ys)
  | [], _ => .flat (fun c hc => nomatch hc)
  | [y], h => h y (by simp)
  | y :: x :: ys, h => by
    have e : TL.joinL m (y :: x :: ys) = y ++ (m ++ TL.joinL m (x :: ys)) := rfl
    rw [e]
    exact (h y (by simp)).app (hm.app (VT.join hm (x :: ys) fun z hz => h z (List.mem_cons_of_mem _ hz)))
theorem vt_mkl (a : Bool) : VT (mkl a) := .flat (by cases a <;> decide)
mutual
theorem vt_tc : ∀ c : Cv, CG c → VT (tc c)
  | .ask v w, h => by
    have := vt_tx v 4 h.1
    rw [tc]
    split
    · exact this
    · exact VT.app (.flat (by decide)) (VT.app (a := [32]) (.flat (by decide)) this)
  | .con a ps, h => by rw [tc]; exact .join (vt_mkl a) _ (vt_tcs a ps h.2)
  | .qu a v c, h => by
    rw [tc]
    exact .form (qwl_sgn a) ((vt_tx v 4 h.1.1).bal.app (Bal.app (a := [58, 32]) (bal_flat (by decide)) (vt_tc c h.2).bal))
theorem vt_tcs (a : Bool) : ∀ cs : List Cv, CGs cs → ∀ y ∈ tcs a cs, VT y
  | c :: cs, h, y, hy => by
    rw [tcs] at hy
    have hc := vt_tc c h.1
    rcases List.mem_cons.mp hy with e | hy
    · subst e
      unfold wrp
      split
      · exact .wrap hc.bal
      · exact hc
    · exact vt_tcs a cs h.2 y hy
end
/-- an ask or a search -/
theorem us_ask {v : Vv} {w : Bool} (h : CG (.ask v w)) : US (tc (.ask v w)) := by
  obtain ⟨z, l, e, gz, b⟩ := app_form h.1 h.2
  have u : US (tx v) := by rw [e]; exact .form (nm_signs gz.1) b.bal
  rw [tc]
  split
  · exact u
  · exact u.nott
theorem us_qu {a : Bool} {v : Vv} {c : Cv} (h : CG (.qu a v c)) : US (tc (.qu a v c)) := by
  rw [tc]
  exact .form (qwl_sgn a) ((vt_tx v 4 h.1.1).bal.app (Bal.app (a := [58, 32]) (bal_flat (by decide)) (vt_tc c h.2).bal))
noncomputable def isCon : Cv → Bool
  | .con _ _ => true
  | _ => false
theorem us_bare {c : Cv} (h : CG c) (hc : isCon c = false) : US (tc c) := by
  cases c with
  | ask v w => exact us_ask h
  | con a ps => cases hc
  | qu a v c => exact us_qu h
theorem us_wrp {c : Cv} {b : Bool} (h : CG c) (hc : isCon c = true → b = true) : US (wrp b (tc c)) := by
  cases b with
  | true => exact .wrap (vt_tc c h).bal
  | false => exact us_bare h (by cases e : isCon c with | false => rfl | true => cases hc e)
theorem parts_and {ps : List Cv} (h : CGs ps) : ∀ y ∈ tcs true ps, US y := fun y hy => by
  rw [tcs_map] at hy
  obtain ⟨c, hc, rfl⟩ := List.mem_map.mp hy
  exact us_wrp (h.mem c hc) fun e => by cases c <;> first | rfl | cases e
theorem tcs_ne {a : Bool} {ps : List Cv} (h : 2 ≤ ps.length) : tcs a ps ≠ [] := by
  rw [tcs_map]
  intro e
  have := congrArg List.length e
  simp at this
  rw [this] at h; simp at h
theorem or_scan {c : Cv} (h : CG c) (hc : ∀ ps, c ≠ .con false ps) (r : List Nat) : Scan (mkl false) 0 (tc c) r 0 := by
  cases c with
  | ask v w => exact (us_ask h).scan false r
  | qu a v c => exact (us_qu h).scan false r
  | con a ps =>
    cases a with
    | false => exact absurd rfl (hc ps)
    | true => rw [tc]; exact (scan_or_and _ (parts_and h.2) (tcs_ne h.1)).1 r
theorem parts_or {ps : List Cv} (h : CGs ps) : ∀ y ∈ tcs false ps, ∀ r, Scan (mkl false) 0 y r 0 := fun y hy r => by
  rw [tcs_map] at hy
  obtain ⟨c, hc, rfl⟩ := List.mem_map.mp hy
  have hg := h.mem c hc
  cases e : inP false c with
  | true => exact (US.wrap (vt_tc c hg).bal).scan false r
  | false =>
    refine or_scan hg (fun ps z => ?_) r
    rw [z] at e
    cases e
noncomputable def cutT : CE := match b_pieces_of with
  | _ :: .whileS t _ :: _ => t
  | _ => .cst .non
noncomputable def cutB : List CS := match b_pieces_of with
  | _ :: .whileS _ b :: _ => b
  | _ => []
noncomputable def cutI : List CS := match cutB with
  | [.ifS _ a _] => a
  | _ => []
noncomputable def cutE : List CS := match cutB with
  | [.ifS _ _ a] => a
  | _ => []
noncomputable abbrev mkD (ys : List (List Nat)) : List L3.D := ys.map fun y => L3.D.str (mkS y)
noncomputable abbrev sides : List (Str × GV) := [(Str.ofString "(", .int 1), (Str.ofString ")", .int (-1))]
theorem sides_at (c : Nat) : (match sides.lookup ⟨#[c]⟩ with | some g => g.d | none => L3.D.int 0) = .int (side c) := by
  have e1 : Str.ofString "(" = ⟨#[40]⟩ := by decide +kernel
  have e2 : Str.ofString ")" = ⟨#[41]⟩ := by decide +kernel
  rw [sides, e1, e2]
  unfold side
  by_cases h : c = 40
  · subst h; rfl
  · have b1 : ((⟨#[c]⟩ : Str) == ⟨#[40]⟩) = false := by
      rw [beq_eq_false_iff_ne]; intro e; apply h; injection e with e; simpa using e
    by_cases h2 : c = 41
    · subst h2
      rw [List.lookup_cons, b1]
      rfl
    · have b2 : ((⟨#[c]⟩ : Str) == ⟨#[41]⟩) = false := by
        rw [beq_eq_false_iff_ne]; intro e; apply h2; injection e with e; simpa using e
      rw [List.lookup_cons, b1]
      simp only [List.lookup_cons, b2, List.lookup_nil, if_neg h, if_neg h2]
theorem cut_else {G : G3} {ex : Kxs} {z : Str} {D : EndsC} {y1 y2 y3 : Option L3.D} {a c : Nat} {d : Int} {l : List Nat} {C : CH} (hz : z.length ≤ sizeLine) (hd : z.cps.toList.drop a = c :: l)
    (hK : D.nx [some (.str z), y1, y2, y3, some (.int (d + side c)), some (.int ((a + 1 : Nat) : Int))] C) : rdSs G ex cutE D [some (.str z), y1, y2, y3, some (.int d), some (.int (a : Nat))] C := by
  simp only [cutE, cutB, b_pieces_of]
  rw [rdSs_cons]
  simp_arith [cGetW]
  refine ⟨.int d, rfl, .str z, rfl, .int (a : Nat), rfl, ?_⟩
  refine oIxA_str.mpr ?_
  refine ⟨hz, c, atI_drop hd, ⟨#[c]⟩, rfl, ?_⟩
  have e := sides_at c
  have fin : ∀ w : L3.D, w = .int (side c) → oAug OpB.add (.int d) w C fun w C2 => rdSs G ex [CS.augN 5 OpB.add (CE.cst (L3.D.int 1))] D ([some (.str z), y1, y2, y3, some (.int d), some (.int (a : Nat))].set 4 (some w)) C2 := fun w hw => by
    subst hw
    show rdSs G ex [CS.augN 5 OpB.add (CE.cst (L3.D.int 1))] D [some (.str z), y1, y2, y3, some (.int (d + side c)), some (.int (a : Nat))] C
    rw [rdSs_cons]
    simp_arith []
    exact ⟨.int (a : Nat), rfl, hK⟩
  cases hl : sides.lookup ⟨#[c]⟩ with
  | some g =>
    rw [hl] at e
    exact fin g.d e
  | none =>
    rw [hl] at e
    exact fin (.int 0) e
theorem cut_then {G : G3} {ex : Kxs} {z : Str} {mark cur : List Nat} {p : Addr} {D : EndsC} {a b : Nat} {d : L3.D} {fs : List (List Nat)} {C : CH} (hz : z.length ≤ sizeLine) (hml : mark.length ≤ 10) (hf : fs.length < 100001)
    (hp : C p = some (.lst (mkD fs))) (hc : L2.cutS z (some (b : Int)) (some (a : Int)) = mkS cur)
    (hK : D.nx [some (.str z), some (.str (mkS mark)), some (.ref p), some (.int ((a + mark.length : Nat) : Int)), some d, some (.int ((a + mark.length : Nat) : Int))] (cup C p (.lst (mkD (fs ++ [cur]))))) :
    rdSs G ex cutI D [some (.str z), some (.str (mkS mark)), some (.ref p), some (.int (b : Nat)), some d, some (.int (a : Nat))] C := by
  have hsl : 1000000 ≤ sizeLine := by decide
  simp only [cutI, cutB, b_pieces_of]
  rw [rdSs_cons]
  simp_arith []
  refine ⟨isLst_of hp, hz, ?_⟩
  rw [hc]
  refine ⟨p, _, .str (mkS cur), rfl, rfl, hp, by rw [List.length_map]; omega, ?_⟩
  dsimp only
  rw [rdSs_cons]
  simp_arith [mkS_len]
  refine ⟨.int (a : Nat), rfl, .str (mkS mark), rfl, ?_⟩
  simp_arith [mkS_len]
  refine ⟨by omega, ?_⟩
  have e : ((a : Nat) : Int) + ((mark.length : Nat) : Int) = ((a + mark.length : Nat) : Int) := by push_cast; rfl
  show rdSs G ex [CS.asg (CT.nm 3) (CE.var 5)] D [some (.str z), some (.str (mkS mark)), some (.ref p), some (.int (b : Nat)), some d, some (.int (((a : Nat) : Int) + ((mark.length : Nat) : Int)))] _
  rw [e, rdSs_cons]
  simp_arith []
  simp only [mkD, List.map_append, List.map_cons, List.map_nil] at hK ⊢
  exact hK
theorem cut_body {G : G3} {ex : Kxs} {z : Str} {mark cur l : List Nat} {p : Addr} {D : EndsC} {a b c : Nat} {d : Int} {fs : List (List Nat)} {C : CH} (hz : z.length ≤ sizeLine) (so : PyData.strOk z = true) (som : PyData.strOk (mkS mark) = true) (hml : mark.length ≤ 10) (hf : fs.length < 100001)
    (hp : C p = some (.lst (mkD fs))) (hc : L2.cutS z (some (b : Int)) (some (a : Int)) = mkS cur) (hd : z.cps.toList.drop a = c :: l)
    (h1 : d = 0 → mark.isPrefixOf (c :: l) = true → D.nx [some (.str z), some (.str (mkS mark)), some (.ref p), some (.int ((a + mark.length : Nat) : Int)), some (.int d), some (.int ((a + mark.length : Nat) : Int))] (cup C p (.lst (mkD (fs ++ [cur])))))
    (h2 : ¬ (d = 0 ∧ mark.isPrefixOf (c :: l) = true) → D.nx [some (.str z), some (.str (mkS mark)), some (.ref p), some (.int (b : Nat)), some (.int (d + side c)), some (.int ((a + 1 : Nat) : Int))] C) :
    rdSs G ex cutB D [some (.str z), some (.str (mkS mark)), some (.ref p), some (.int (b : Nat)), some (.int d), some (.int (a : Nat))] C := by
  have ti := fun D => cut_then (G := G) (ex := ex) (z := z) (D := D) (a := a) (d := .int d) hz hml hf hp hc
  have te := fun D => cut_else (G := G) (ex := ex) (z := z) (D := D) (y1 := some (.str (mkS mark))) (y2 := some (.ref p)) (y3 := some (.int (b : Nat))) (d := d) (C := C) hz hd
  simp only [cutI, cutE, cutB, b_pieces_of] at ti te
  simp only [cutB, b_pieces_of]
  rw [rdSs_cons]
  simp_arith [mkS_len]
  by_cases hd0 : d = 0
  · rw [if_pos (decide_eq_true hd0)]
    have e : ((a : Nat) : Int) + ((mark.length : Nat) : Int) = ((a + mark.length : Nat) : Int) := by push_cast; rfl
    have big := big5
    rw [e, cutS_mid, Nat.add_sub_cancel_left, hd, oEqN_strI (mk_so so fun x hx => by have h3 := List.mem_of_mem_take hx; rw [← hd] at h3; exact List.mem_of_mem_drop h3) som]
    refine ⟨by omega, hz, _, rfl, ?_⟩
    have hp2 : (mkS (List.take mark.length (c :: l)) = mkS mark) ↔ mark.isPrefixOf (c :: l) = true := by
      rw [mkS_inj, List.isPrefixOf_iff_prefix, List.prefix_iff_eq_take]
      exact ⟨fun h => h.symm, fun h => h.symm⟩
    by_cases hpre : mark.isPrefixOf (c :: l) = true
    · rw [if_pos (by simp only [id_eq, decide_eq_true_eq]; exact hp2.mpr hpre)]
      refine ti _ ?_
      dsimp only
      simp_arith []
      exact h1 hd0 hpre
    · rw [if_neg (by simp only [id_eq, decide_eq_true_eq]; exact fun h => hpre (hp2.mp h))]
      refine te _ ?_
      dsimp only
      simp_arith []
      exact h2 fun h => hpre h.2
  · rw [if_neg (by simp [hd0])]
    refine te _ ?_
    dsimp only
    simp_arith []
    exact h2 fun h => hd0 h.1
theorem pieces_loop {G : G3} {ex : Kxs} {z : Str} {mark : List Nat} {p : Addr} {D : EndsC} (hz : z.length ≤ sizeLine) (so : PyData.strOk z = true) (som : PyData.strOk (mkS mark) = true) (hm : mark ≠ []) (hml : mark.length ≤ 10) :
    ∀ (m b : Nat) (d : Int) (cur l : List Nat) (fs : List (List Nat)) (C : CH), z.cps.toList.drop b = cur ++ l → l.length ≤ m → C p = some (.lst (mkD fs)) → fs.length + l.length ≤ 100000 →
      (∀ (b' : Nat) (d' a' : L3.D) C', (∀ q, q ≠ p → C' q = C q) → C' p = some (.lst (mkD (fs ++ (lp mark m l d cur).1))) → z.cps.toList.drop b' = (lp mark m l d cur).2 → D.nx [some (.str z), some (.str (mkS mark)), some (.ref p), some (.int b'), some d', some a'] C') →
      whileN (rdT G ex cutT) (rdSs G ex cutB) D (m + 1) [some (.str z), some (.str (mkS mark)), some (.ref p), some (.int b), some (.int d), some (.int ((b + cur.length : Nat) : Int))] C := by
  have hlz := len_cps z
  have stop : ∀ (m b : Nat) (d : Int) (cur : List Nat) (fs : List (List Nat)) (C : CH), z.cps.toList.drop b = cur → C p = some (.lst (mkD fs)) →
      (∀ (b' : Nat) (d' a' : L3.D) C', (∀ q, q ≠ p → C' q = C q) → C' p = some (.lst (mkD fs)) → z.cps.toList.drop b' = cur → D.nx [some (.str z), some (.str (mkS mark)), some (.ref p), some (.int b'), some d', some a'] C') →
      whileN (rdT G ex cutT) (rdSs G ex cutB) D (m + 1) [some (.str z), some (.str (mkS mark)), some (.ref p), some (.int b), some (.int d), some (.int ((b + cur.length : Nat) : Int))] C := fun m b d cur fs C hd hp hK => by
    unfold whileN
    conv => rw [cutT, b_pieces_of]
    dsimp only
    simp_arith []
    refine ⟨hz, ?_⟩
    have e := congrArg List.length hd
    rw [List.length_drop] at e
    rw [if_neg (by simp only [decide_eq_true_eq]; omega)]
    exact hK b _ _ C (fun _ _ => rfl) hp hd
  intro m
  induction m with
  | zero =>
    intro b d cur l fs C hd hl hp hf hK
    have hl0 : l = [] := List.length_eq_zero_iff.mp (by omega)
    subst hl0
    rw [List.append_nil] at hd
    refine stop 0 b d cur fs C hd hp fun b' d' a' C' h1 h2 h3 => hK b' d' a' C' h1 ?_ ?_
    · rw [lp, List.append_nil]; exact h2
    · rw [lp, List.append_nil]; exact h3
  | succ m ih =>
    intro b d cur l fs C hd hl hp hf hK
    cases l with
    | nil =>
      rw [List.append_nil] at hd
      refine stop _ b d cur fs C hd hp fun b' d' a' C' h1 h2 h3 => hK b' d' a' C' h1 ?_ ?_
      · rw [lp, List.append_nil]; exact h2
      · rw [lp]; exact h3
    | cons c l =>
      rw [List.length_cons] at hl hf
      have e := congrArg List.length hd
      rw [List.length_drop, List.length_append, List.length_cons] at e
      have hlen : b + cur.length < z.length := by omega
      have hda : z.cps.toList.drop (b + cur.length) = c :: l := by rw [← List.drop_drop, hd, List.drop_left]
      unfold whileN
      conv => rw [cutT, b_pieces_of]
      dsimp only
      simp_arith []
      refine ⟨hz, ?_⟩
      rw [if_pos (decide_eq_true (by omega))]
      refine cut_body hz so som hml (by omega) hp (cur := cur) (by rw [cutS_mid, hd, Nat.add_sub_cancel_left, List.take_left]) hda (fun hd0 hpre => ?_) fun hn => ?_
      · subst hd0
        have hpm := List.isPrefixOf_iff_prefix.mp hpre
        have hlm := hpm.length_le
        rw [List.length_cons] at hlm
        have hm1 : 1 ≤ mark.length := List.length_pos_iff.mpr hm
        exact ih (b + cur.length + mark.length) 0 [] ((c :: l).drop mark.length) (fs ++ [cur]) (cup C p (.lst (mkD (fs ++ [cur])))) (by rw [List.nil_append, ← List.drop_drop, hda]) (by rw [List.length_drop, List.length_cons]; omega) cup_same (by rw [List.length_append, List.length_singleton, List.length_drop, List.length_cons]; omega) (fun b' d' a' C' h1 h2 h3 => hK b' d' a' C' (fun q hq => by rw [h1 q hq]; exact cup_ne hq) (by
            rw [lp, if_pos ⟨rfl, hpre⟩]
            rw [List.append_assoc] at h2
            exact h2) (by rw [lp, if_pos ⟨rfl, hpre⟩]; exact h3))
      · have eb : b + cur.length + 1 = b + (cur ++ [c]).length := by rw [List.length_append, List.length_singleton]; omega
        rw [eb]
        exact ih b (d + side c) (cur ++ [c]) l fs C (by rw [List.append_assoc]; exact hd) (by omega) hp (by omega) fun b' d' a' C' h1 h2 h3 => hK b' d' a' C' h1 (by rw [lp, if_neg hn]; exact h2) (by rw [lp, if_neg hn]; exact h3)
theorem lp_len (mark : List Nat) : ∀ (m : Nat) (l : List Nat) (d : Int) (cur : List Nat), (lp mark m l d cur).1.length ≤ m
  | 0, l, d, cur => by simp [lp]
  | m + 1, [], d, cur => by simp [lp]
  | m + 1, c :: r, d, cur => by
    rw [lp]
    split
    · have := lp_len mark m ((c :: r).drop mark.length) 0 []
      simp only [List.length_cons]
      omega
    · have := lp_len mark m r (d + side c) (cur ++ [c])
      omega
theorem pieces_ok {n : Nat} {z : Str} {mark : List Nat} {C : CH} {Q : Kv} {E : Kx} (hz : z.length ≤ 50000) (so : PyData.strOk z = true) (som : PyData.strOk (mkS mark) = true) (hm : mark ≠ []) (hml : mark.length ≤ 10)
    (hq : ∀ q C', Sub C C' → C' q = some (.lst (mkD ((lp mark z.length z.cps.toList 0 []).1 ++ [(lp mark z.length z.cps.toList 0 []).2]))) → Q (.ref q) C') : W (n + 1) i_pieces_of [.str z, .str (mkS mark)] C Q E := by
  have big := big5
  have hlz := len_cps z
  rw [W_pieces_of]
  unfold b_pieces_of
  rw [rdSs_cons]
  simp_arith [oLst]
  intro p hp
  rw [rdSs_cons, rdS_while]
  refine ⟨z.length + 1, ?_⟩
  refine (show whileN (rdT (GG n) (exN E) cutT) (rdSs (GG n) (exN E) cutB) _ _ [some (.str z), some (.str (mkS mark)), some (.ref p), some (.int (0 : Nat)), some (.int 0), some (.int ((0 + ([] : List Nat).length : Nat) : Int))] _ from
    pieces_loop (by omega) so som hm hml z.length 0 0 [] z.cps.toList [] _ rfl (by omega) cup_same (by rw [List.length_nil]; omega) fun b' d' a' C' h1 h2 h3 => ?_)
  dsimp only
  rw [rdSs_cons]
  simp_arith [oLst]
  refine ⟨by omega, fun r hr => ?_⟩
  rw [cutS_lo, h3]
  have lens : (lp mark z.length z.cps.toList 0 []).1.length ≤ 60000 := by
    have := lp_len mark z.length z.cps.toList 0 [] 
    omega
  refine ⟨_, _, cup_old hr h2, cup_same, by rw [List.nil_append, List.length_map, List.length_singleton]; omega, fun q hq' => ⟨_, Sub.refl, hq q _ ?_ ?_⟩⟩
  · intro a u ha
    have ne : a ≠ p := fun e => by rw [e, hp] at ha; cases ha
    have h0 : C' a = some u := by rw [h1 a ne, cup_ne ne]; exact ha
    exact cup_old hq' (cup_old hr h0)
  · rw [cup_same]
    simp only [mkD, List.nil_append, List.map_append, List.map_cons, List.map_nil]
theorem so_iff {z : Str} : PyData.strOk z = true ↔ ∀ c ∈ z.cps.toList, c < 1114112 := by
  show z.cps.all (· < 0x110000) = true ↔ _
  rw [← Array.all_toList, List.all_eq_true]
  simp only [decide_eq_true_eq]
theorem so_app {a b : Str} (ha : PyData.strOk a = true) (hb : PyData.strOk b = true) : PyData.strOk (a ++ b) = true := by
  rw [so_iff] at *
  intro c hc
  rw [show (a ++ b).cps.toList = a.cps.toList ++ b.cps.toList from TL.tl_append a b] at hc
  rcases List.mem_append.mp hc with h | h
  · exact ha c h
  · exact hb c h
theorem so_join {s : Str} (hs : PyData.strOk s = true) : ∀ ts : List Str, (∀ t ∈ ts, PyData.strOk t = true) → PyData.strOk (Str.join s ts) = true
  | [], _ => show PyData.strOk Str.empty = true by decide +kernel
  | [x], h => h x List.mem_cons_self
  | x :: y :: r, h => so_app (so_app (h x List.mem_cons_self) hs) (so_join hs (y :: r) fun t ht => h t (List.mem_cons_of_mem _ ht))
theorem ch_lt (c : Char) : c.toNat < 1114112 := by
  have := c.valid
  rcases this with h | ⟨_, h⟩
  · have : c.toNat < 55296 := h
    omega
  · exact h
theorem so_char {q c : Nat} (hc : c < 1114112) : ∀ x ∈ Builtin.Str.reprChar q c, x < 1114112 := by
  have hex : ∀ k, ∀ x ∈ List.replicate (k - ((Nat.toDigits 16 c).map Char.toNat).length) 48 ++ (Nat.toDigits 16 c).map Char.toNat, x < 1114112 := fun k x hx => by
    rcases List.mem_append.mp hx with h | h
    · have := List.eq_of_mem_replicate h; omega
    · obtain ⟨d, _, rfl⟩ := List.mem_map.mp h
      exact ch_lt d
  unfold Builtin.Str.reprChar
  dsimp only
  repeat' split
  all_goals intro x hx
  all_goals first
    | (simp only [List.mem_cons, List.not_mem_nil, or_false] at hx; rcases hx with rfl | rfl <;> omega)
    | (simp only [List.mem_cons, List.not_mem_nil, or_false] at hx; omega)
    | (rcases List.mem_append.mp hx with h | h
       · simp only [List.mem_cons, List.not_mem_nil, or_false] at h; rcases h with rfl | rfl <;> omega
       · exact hex _ x h)
theorem so_fold {q : Nat} : ∀ (l : List Nat) (acc : Array Nat), (∀ c ∈ l, c < 1114112) → (∀ c ∈ acc.toList, c < 1114112) → ∀ c ∈ (l.foldl (fun out c => out ++ (Builtin.Str.reprChar q c).toArray) acc).toList, c < 1114112
  | [], acc, _, h => h
  | x :: l, acc, hl, h => so_fold l _ (fun c hc => hl c (List.mem_cons_of_mem _ hc)) fun c hc => by
    rw [Array.toList_append] at hc
    rcases List.mem_append.mp hc with h' | h'
    · exact h c h'
    · exact so_char (hl x List.mem_cons_self) c h'
theorem so_repr {z : Str} (h : PyData.strOk z = true) : PyData.strOk (reprText z) = true := by
  rw [so_iff] at *
  have hq : reprQuote z < 1114112 := by
    unfold reprQuote
    split <;> omega
  intro c hc
  unfold reprText at hc
  rw [← Array.foldl_toList] at hc
  rw [Array.toList_push] at hc
  rcases List.mem_append.mp hc with h' | h'
  · refine so_fold _ _ h (fun c hc => ?_) c h'
    have : c = reprQuote z := by simpa using hc
    rw [this]; exact hq
  · rw [List.mem_singleton.mp h']; exact hq
/-- what is small enough to be shown -/
structure Shows (t : T) (w : Nat) : Prop where
  can : t.p.showable = true
  short : t.p.leavesShort 8 = true
  wt : t.p.weight ≤ w
  so : PyData.strOk t.p.shown = true
structure ShowsL (ts : List T) (w : Nat) : Prop where
  can : PyData.showableAll (T.pl ts) = true
  short : PyData.leavesShortAll 8 (T.pl ts) = true
  wt : PyData.weightAll (T.pl ts) ≤ w
  so : ∀ x ∈ PyData.shownAll (T.pl ts), PyData.strOk x = true
theorem ShowsL.nil : ShowsL [] 0 := ⟨rfl, rfl, Nat.le_refl _, fun _ h => nomatch h⟩
theorem ShowsL.cons {t : T} {ts : List T} {w v : Nat} (h : Shows t w) (hs : ShowsL ts v) : ShowsL (t :: ts) (w + 1 + v) := by
  refine ⟨?_, ?_, ?_, fun x hx => ?_⟩
  · simp only [T.pl, PyData.showableAll, h.can, hs.can, Bool.and_self]
  · simp only [T.pl, PyData.leavesShortAll, h.short, hs.short, Bool.and_self]
  · simp only [T.pl, PyData.weightAll]
    have := h.wt
    have := hs.wt
    omega
  · simp only [T.pl, PyData.shownAll] at hx
    rcases List.mem_cons.mp hx with e | hx
    · rw [e]; exact h.so
    · exact hs.so x hx
theorem ShowsL.tup {ts : List T} {w : Nat} (h : ShowsL ts w) : Shows (.tup ts) w := by
  refine ⟨h.can, h.short, h.wt, ?_⟩
  show PyData.strOk (tupleText (PyData.shownAll (T.pl ts))) = true
  unfold tupleText
  refine so_app (so_app (by decide +kernel) (so_join (by decide +kernel) _ h.so)) ?_
  split <;> decide +kernel
theorem Shows.le {t : T} {w v : Nat} (h : Shows t w) (hv : w ≤ v) : Shows t v := ⟨h.can, h.short, Nat.le_trans h.wt hv, h.so⟩
theorem shows_nm {z : Str} (h : goodNm z) : Shows (.str z) 8 := by
  refine ⟨rfl, ?_, ?_, so_repr h.2.2⟩
  · show (z.cps.toList.all fun c => decide (c < 16 ^ 8)) = true
    have := so_iff.mp h.2.2
    rw [List.all_eq_true]
    intro c hc
    have := this c hc
    exact decide_eq_true (by omega)
  · show z.cps.size ≤ 8
    exact h.2.1
theorem shows_item {i : Int} (h1 : 1 ≤ i) (h3 : i ≤ 3) : Shows (.int i) 2 := by
  have : i = 1 ∨ i = 2 ∨ i = 3 := by omega
  rcases this with rfl | rfl | rfl <;> exact ⟨by decide +kernel, by decide +kernel, by decide +kernel, by decide +kernel⟩
theorem shows_vv : ∀ v : Vv, v.good → v.top ≤ 3 → Shows v.t (12 * v.size)
  | .item i, g, h => (shows_item g h).le (by simp only [Vv.size]; omega)
  | .app1 z a, g, h => by
    have := ((ShowsL.nil.cons (shows_vv a g.2 h)).cons (shows_nm g.1)).tup
    simp only [Vv.t, Vv.size] at *
    exact this.le (by omega)
  | .app2 z a b, g, h => by
    have ta : a.top ≤ 3 := by simp only [Vv.top] at h; split at h <;> omega
    have tb : b.top ≤ 3 := by simp only [Vv.top] at h; split at h <;> omega
    have := (((ShowsL.nil.cons (shows_vv b g.2.2 tb)).cons (shows_vv a g.2.1 ta)).cons (shows_nm g.1)).tup
    simp only [Vv.t, Vv.size] at *
    exact this.le (by omega)
theorem repr_T {t : T} {w : Nat} {C : CH} {Q : Kv} (s : Shows t w) (hw : w ≤ 40000) (hd : t.p.depth ≤ 350) (hq : Q (.str t.p.shown) C) : oRepr [t.d] C Q := by
  have hl := PyData.shown_le 8 (Nat.le_refl _) t.p s.short
  have hw' := s.wt
  have hsl : (2000000 : Nat) ≤ sizeLine := by decide
  refine ⟨_, _, rfl, t.snap C, s.can, ?_, by omega, hq⟩
  omega
theorem so_from0 : ∀ (ts : List Str) (k : Nat) (acc : Str), PyData.strOk acc = true → (∀ t ∈ ts, PyData.strOk t = true) → PyData.strOk (textFrom k acc ts) = true
  | [], _, acc, h, _ => h
  | t :: ts, k, acc, h, hs => by
    refine so_from0 ts (k + 1) _ (so_app (so_app h ?_) (hs t List.mem_cons_self)) fun x hx => hs x (List.mem_cons_of_mem _ hx)
    split <;> decide +kernel
/-- the text of a list -/
theorem repr_L {ts : List T} {w : Nat} {C : CH} {p : Addr} {Q : Kv} (s : ShowsL ts w) (hw : w ≤ 1600000) (hd : ∀ t ∈ ts, okT t = true ∧ t.p.depth ≤ 300) (hp : C p = some (.lst (ts.map T.d))) (hq : PyData.strOk (PyData.list (T.pl ts)).shown = true → Q (.str (PyData.list (T.pl ts)).shown) C) : oRepr [.ref p] C Q := by
  have hsl : (16700000 : Nat) ≤ sizeLine := by decide
  have hc : (PyData.list (T.pl ts)).showable = true := s.can
  have hs : (PyData.list (T.pl ts)).leavesShort 8 = true := s.short
  have hw' : (PyData.list (T.pl ts)).weight ≤ 1600000 := by have := s.wt; exact Nat.le_trans this hw
  have hl := PyData.shown_le 8 (Nat.le_refl _) _ hs
  have hdd : (PyData.list (T.pl ts)).depth ≤ 350 := by
    have := (depths_le (m := 300) (ts := ts) hd).2
    show PyData.depthAll _ + 1 ≤ 350
    omega
  refine ⟨_, _, rfl, Snap.lst hp (by rw [← T.ds_map]; exact T.snaps C ts), hc, ?_, hdd, hq ?_⟩
  · omega
  · show PyData.strOk (listText (PyData.shownAll (T.pl ts))) = true
    unfold listText
    exact so_app (so_from0 _ _ _ (by decide +kernel) s.so) (by decide +kernel)
theorem tx_so : ∀ {v : Vv} {r : Nat}, Good r v → ∀ c ∈ tx v, c < 1114112
  | .item i, r, g, c, hc => by
    obtain ⟨h1, h3⟩ := good_item.mp g
    exact sig_small c (of_decide_eq_true ((itemOf_item h1 h3).2.1 c hc))
  | .app1 z a, r, g, c, hc => by
    obtain ⟨gz, k, rfl, ga⟩ := good_app1.mp g
    simp only [tx, List.mem_append, List.mem_cons, List.not_mem_nil, or_false] at hc
    rcases hc with hc | hc | hc | hc
    · exact so_iff.mp gz.2.2 c hc
    · omega
    · exact tx_so ga c hc
    · omega
  | .app2 z a b, r, g, c, hc => by
    obtain ⟨gz, k, rfl, ga, gb⟩ := good_app2.mp g
    simp only [tx, List.mem_append, List.mem_cons, List.not_mem_nil, or_false] at hc
    rcases hc with hc | hc | hc | hc | hc | hc | hc
    · exact so_iff.mp gz.2.2 c hc
    · omega
    · exact tx_so ga c hc
    · omega
    · omega
    · exact tx_so gb c hc
    · omega
theorem joinL_so {m : List Nat} (hm : ∀ x ∈ m, x < 1114112) : ∀ (ys : List (List Nat)), (∀ y ∈ ys, ∀ x ∈ y, x < 1114112) → ∀ x ∈ TL.joinL m ys, x < 1114112
  | [], _, x, hx => nomatch hx
  | [y], h, x, hx => h y (by simp) x hx
  | y :: z :: ys, h, x, hx => by
    have e : TL.joinL m (y :: z :: ys) = y ++ (m ++ TL.joinL m (z :: ys)) := rfl
    rw [e] at hx
    rcases List.mem_append.mp hx with hx | hx
    · exact h y (by simp) x hx
    · rcases List.mem_append.mp hx with hx | hx
      · exact hm x hx
      · exact joinL_so hm (z :: ys) (fun w hw => h w (List.mem_cons_of_mem _ hw)) x hx
theorem joinL_len {m : List Nat} : ∀ (ys : List (List Nat)), (TL.joinL m ys).length ≤ (ys.map (·.length)).sum + ys.length * m.length
  | [] => by simp [TL.joinL]
  | [y] => by simp [TL.joinL]
  | y :: z :: ys => by
    have e : TL.joinL m (y :: z :: ys) = y ++ (m ++ TL.joinL m (z :: ys)) := rfl
    have := joinL_len (m := m) (z :: ys)
    rw [e, List.length_append, List.length_append, List.map_cons, List.sum_cons, List.length_cons (a := y), Nat.add_mul]
    omega
theorem mkl_so (a : Bool) : ∀ x ∈ mkl a, x < 1114112 := by cases a <;> decide
theorem qwl_so (a : Bool) : ∀ x ∈ qwl a, x < 1114112 := by cases a <;> decide
theorem mkl_len (a : Bool) : (mkl a).length ≤ 5 := by cases a <;> decide
theorem wrp_so {b : Bool} {l : List Nat} (h : ∀ x ∈ l, x < 1114112) : ∀ x ∈ wrp b l, x < 1114112 := fun x hx => by
  unfold wrp at hx
  split at hx
  · simp only [List.mem_cons, List.mem_append, List.not_mem_nil, or_false] at hx
    rcases hx with hx | hx | hx
    · omega
    · exact h x hx
    · omega
  · exact h x hx
theorem wrp_len (b : Bool) (l : List Nat) : (wrp b l).length ≤ l.length + 2 := by unfold wrp; split <;> simp
mutual
theorem tc_so : ∀ c : Cv, CG c → ∀ x ∈ tc c, x < 1114112
  | .ask v w, h, x, hx => by
    rw [tc] at hx
    split at hx
    · exact tx_so h.1 x hx
    · simp only [lNot, List.mem_cons, List.mem_append, List.not_mem_nil, or_false] at hx
      rcases hx with (hx | hx | hx) | hx | hx
      · omega
      · omega
      · omega
      · omega
      · exact tx_so h.1 x hx
  | .con a ps, h, x, hx => by
    rw [tc] at hx
    exact joinL_so (mkl_so a) _ (tcs_so a ps h.2) x hx
  | .qu a v c, h, x, hx => by
    rw [tc] at hx
    simp only [List.mem_cons, List.mem_append, List.not_mem_nil, or_false] at hx
    rcases hx with hx | hx | (hx | hx | hx | hx) | hx
    · exact qwl_so a x hx
    · omega
    · exact tx_so h.1.1 x hx
    · omega
    · omega
    · exact tc_so c h.2 x hx
    · omega
theorem tcs_so (a : Bool) : ∀ cs : List Cv, CGs cs → ∀ y ∈ tcs a cs, ∀ x ∈ y, x < 1114112
  | c :: cs, h, y, hy => by
    rw [tcs] at hy
    rcases List.mem_cons.mp hy with e | hy
    · subst e; exact wrp_so (tc_so c h.1)
    · exact tcs_so a cs h.2 y hy
end
mutual
theorem tc_len : ∀ c : Cv, CG c → (tc c).length + 7 ≤ 470 * csize c.cn
  | .ask v w, h => by
    have := tx_short h.1
    rw [tc, Cv.cn, csize]
    split
    · omega
    · rw [List.length_append, List.length_cons]; show 3 + _ + 7 ≤ _; omega
  | .con a ps, h => by
    have h1 := tcs_len a ps h.2
    have h2 := joinL_len (m := mkl a) (tcs a ps)
    have h3 := mkl_len a
    have h4 : (tcs a ps).length = ps.length := by rw [tcs_map, List.length_map]
    rw [tc, Cv.cn, csize]
    have h5 : (tcs a ps).length * (mkl a).length ≤ ps.length * 5 := by rw [h4]; exact Nat.mul_le_mul_left _ h3
    omega
  | .qu a v c, h => by
    have := tx_short h.1.1
    have h2 := tc_len c h.2
    have h3 : (qwl a).length = 3 := by cases a <;> rfl
    rw [tc, Cv.cn, csize]
    simp only [List.length_append, List.length_cons, List.length_nil, h3]
    omega
theorem tcs_len (a : Bool) : ∀ cs : List Cv, CGs cs → ((tcs a cs).map (·.length)).sum + cs.length * 5 ≤ 470 * csizes (Cv.cns cs)
  | [], _ => by simp [tcs]
  | c :: cs, h => by
    have h1 := tc_len c h.1
    have h2 := tcs_len a cs h.2
    have h3 := wrp_len (inP a c) (tc c)
    rw [tcs, List.map_cons, List.sum_cons, Cv.cns, csizes, List.length_cons]
    omega
end
theorem tc_mk {c : Cv} (h : CG c) : PyData.strOk (mkS (tc c)) = true := so_iff.mpr (by rw [tl_mkS]; exact tc_so c h)
theorem t_ask (v : Vv) (w : Bool) : (Cv.ask v w).cn.t.d = .tup [.str (Str.ofString "ask"), v.t.d, .bl w] := by simp only [Cv.cn, Cn.t, T.d, T.ds]
theorem t_con (a : Bool) (ps : List Cv) : (Cv.con a ps).cn.t.d = .tup [.str (cw a), .tup (ps.map fun c => c.cn.t.d)] := by
  have e : ∀ cs : List Cv, T.ds (Cn.ts (Cv.cns cs)) = cs.map fun c => c.cn.t.d := by
    intro cs
    induction cs with
    | nil => rfl
    | cons c cs ih => rw [Cv.cns, Cn.ts, T.ds, ih, List.map_cons]
  simp only [Cv.cn, Cn.t, T.d, T.ds, e]
theorem t_qu (a : Bool) (v : Vv) (c : Cv) : (Cv.qu a v c).cn.t.d = .tup [.str (qw a), v.t.d, c.cn.t.d] := by simp only [Cv.cn, Cn.t, T.d, T.ds]
theorem hts_of {ps : List Cv} {c : Cv} (h : c ∈ ps) : ht c.cn ≤ hts (Cv.cns ps) ∧ csize c.cn ≤ csizes (Cv.cns ps) := by
  have e : ∀ cs : List Cv, Cv.cns cs = cs.map Cv.cn := by
    intro cs
    induction cs with
    | nil => rfl
    | cons c cs ih => rw [Cv.cns, ih, List.map_cons]
  have m : c.cn ∈ Cv.cns ps := by rw [e]; exact List.mem_map.mpr ⟨c, h, rfl⟩
  exact ⟨hts_mem m, csizes_mem m⟩
theorem head_of (c : Cv) : ∃ w r, c.cn.t.d = .tup (.str w :: r) ∧ (isCon c = false → w ≠ Str.ofString "and" ∧ w ≠ Str.ofString "or") ∧ (∀ a ps, c = .con a ps → w = cw a) := by
  cases c with
  | ask v w => exact ⟨_, _, t_ask v w, fun _ => ⟨by decide +kernel, by decide +kernel⟩, fun _ _ e => nomatch e⟩
  | con a ps => exact ⟨_, _, t_con a ps, (fun h => by cases h), fun b qs e => by cases e; rfl⟩
  | qu a v c => exact ⟨_, _, t_qu a v c, fun _ => by cases a <;> exact ⟨by decide +kernel, by decide +kernel⟩, fun _ _ e => nomatch e⟩
theorem eq_str {f : Bool → Bool} {i j : Str} {b : Bool} {C : CH} {Q : Kv} (h : (PyData.strOk i && PyData.strOk j) = true) (hb : decide (i = j) = b) (q : Q (.bl (f b)) C) : oEqN f (.str i) (.str j) C Q := by
  rw [Bool.and_eq_true] at h
  rw [oEqN_strI h.1 h.2, hb]
  exact q
theorem oInF_str1 {f : Bool → Bool} {w a : Str} {C : CH} {Q : Kv} (q : Q (.bl (f (decide (w = a)))) C) : oInF f (.str w) (.tup [.str a]) C Q := by
  have e : L2.inV (toV (.str w)) ([D.str a].map toV) = decide (w = a) := by
    show ((L2.eqV (.str a) (.str w)) || false) = _
    rw [Bool.or_false]
    show (a == w) = _
    by_cases h : w = a
    · subst h; simp
    · simp [h, Ne.symm h]
  exact ⟨[.str a], .inl rfl, rfl, rfl, by rw [e]; exact q⟩
/-- whether a part stands in parentheses, by its first word -/
theorem inp_of (a : Bool) (c : Cv) {w : Str} {r : List L3.D} (e : c.cn.t.d = .tup (.str w :: r)) : (if a = true then decide (w = Str.ofString "and") || decide (w = Str.ofString "or") else decide (w = Str.ofString "or")) = inP a c := by
  obtain ⟨w', r', e', h1, h2⟩ := head_of c
  rw [e] at e'
  cases e'
  cases hc : isCon c with
  | false =>
    obtain ⟨n1, n2⟩ := h1 hc
    rw [decide_eq_false n1, decide_eq_false n2]
    cases c with
    | con b ps => cases hc
    | ask v w => cases a <;> rfl
    | qu b v c => cases a <;> rfl
  | true =>
    cases c with
    | con b ps =>
      rw [h2 b ps rfl]
      clear e h1 h2 hc
      change _ = (a || !b)
      cases a <;> cases b <;> decide +kernel
    | _ => cases hc
theorem words_ok : ∀ (k n : Nat) (c : Cv) (C : CH) (Q : Kv) (E : Kx), ht c.cn ≤ k → csize c.cn ≤ 100 → CG c → Q (.str (mkS (tc c))) C → W (n + 2 * k + 10) i_condition_words [c.cn.t.d] C Q E := by
  intro k
  induction k with
  | zero => intro n c C Q E hh; cases c <;> simp [Cv.cn, ht] at hh
  | succ k ih =>
    intro n c C Q E hh hs hg hq
    have big := big5
    have tl := tc_len c hg
    rw [W_condition_words]
    unfold b_condition_words
    rw [rdSs_cons]
    cases c with
    | ask v w =>
      have ts := tx_short hg.1
      have hn : PyData.strOk (Str.ofString "not ") = true := by decide +kernel
      have en : Str.empty ++ Str.ofString "not " = mkS (lNot ++ [32]) := by decide +kernel
      simp_arith [t_ask]
      rw [rdSs_cons]
      simp_arith []
      refine eq_str (by decide +kernel) (show _ = true by decide +kernel) ⟨true, rfl, ?_⟩
      rw [if_pos rfl, rdSs_cons]
      cases w with
      | true =>
        simp_arith [GG_call]
        refine value_text_ok (n := n + 2 * (k + 1) - 1) hg.1 ?_
        refine ⟨C, Sub.refl, ?_⟩
        rw [tc, if_pos rfl] at hq
        exact hq
      | false =>
        simp_arith [GG_call, cFst, cJs, cFmt]
        rw [en]
        refine ⟨by rw [mkS_len]; exact Nat.le_trans (by decide) big, value_text_ok (n := n + 2 * (k + 1) - 1) hg.1 ?_⟩
        simp_arith [app_mk, mkS_len]
        rw [tc, if_neg (by decide)] at hq
        refine ⟨by omega, by rw [List.length_append]; show 4 + _ ≤ _; omega, C, Sub.refl, ?_⟩
        rw [List.append_assoc]
        exact hq
    | con a ps =>
      have e1 : PyData.strOk (cw a) = true := by cases a <;> decide +kernel
      have e2 : decide (cw a = Str.ofString "ask") = false := by cases a <;> decide +kernel
      have e3 : ([(Str.ofString "and", GV.wds [Str.ofString "and", Str.ofString "or"]), (Str.ofString "or", GV.wds [Str.ofString "or"])].lookup (cw a)).isSome = true := by cases a <;> decide +kernel
      simp_arith [t_con]
      rw [rdSs_cons]
      simp_arith []
      refine eq_str (by rw [e1]; decide +kernel) e2 ⟨false, rfl, ?_⟩
      rw [if_neg (by decide), rdSs_cons]
      simp_arith [cGIn, e3]
      rw [rdSs_cons]
      simp_arith [cFst, cJs, cFmt, cLc, iSeq]
      have e4 : Str.empty ++ Str.ofString " " ++ cw a ++ Str.ofString " " = mkS (mkl a) := by cases a <;> decide +kernel
      have e5 : (Str.empty ++ Str.ofString " ").length ≤ 100 ∧ (cw a).length ≤ 100 ∧ (Str.empty ++ Str.ofString " " ++ cw a).length ≤ 100 := by cases a <;> decide +kernel
      have e6 := mkl_len a
      have csz := hs
      rw [Cv.cn, csize] at csz
      have sml := tcs_len a ps hg.2
      have l1 : (tcs a ps).length = ps.length := by rw [tcs_map, List.length_map]
      rw [e4]
      refine ⟨Nat.le_trans e5.1 (by omega), Nat.le_trans e5.2.1 (by omega), Nat.le_trans e5.2.2 (by omega), mk_sl (by omega), ⟨_, rfl⟩, ?_⟩
      refine lcL_if (fun c : Cv => c.cn.t.d) (fun c : Cv => L3.D.str (mkS (wrp (inP a c) (tc c)))) (fun _ => true) (G := fun _ => True) (C := C) trivial ps (fun c hc => ⟨_, rfl, fun Q' hQ => hQ, fun Q' hQ => ?_⟩) (by omega) ?_
      · have hgc := hg.2.mem c hc
        obtain ⟨m1, m2⟩ := hts_of hc
        simp_arith [wipe3, GG_call]
        rw [W_part_words]
        unfold b_part_words
        rw [rdSs_cons]
        simp_arith [GG_call]
        rw [show n + 2 * (k + 1) + 8 = n + 2 * k + 10 by omega]
        have hk : ht c.cn ≤ k := by rw [Cv.cn, ht] at hh; omega
        refine ih n c C _ _ hk (by omega) hgc ?_
        have tlc := tc_len c hgc
        obtain ⟨w, r, e, _, _⟩ := head_of c
        have ip := inp_of a c e
        rw [e, rdSs_cons]
        simp_arith [cGIx]
        have fin : ∀ b : Bool, b = inP a c → ∃ b2, (L3.D.bl (id b)) = .bl b2 ∧ if b2 = true then cFst [cC (D.str (Str.ofString "(")), cFmt (cVar 2), cC (D.str (Str.ofString ")"))] [some (.str (cw a)), some (.tup (.str w :: r)), some (.str (mkS (tc c)))] C (fun d C' => ∃ C1, Sub C1 C' ∧ Q' d C1) else ∃ C1, Sub C1 C ∧ Q' (.str (mkS (tc c))) C1 := fun b hb => by
          refine ⟨b, rfl, ?_⟩
          subst hb
          cases hi : inP a c with
          | true =>
            rw [hi] at hQ
            rw [if_pos rfl]
            simp_arith [cFst, cJs, cFmt]
            have e9 : Str.empty ++ Str.ofString "(" = mkS [40] := by decide +kernel
            rw [e9, s_close, app_mk, app_mk]
            refine ⟨mk_sl (by simp; omega), mk_sl (by omega), mk_sl (by simp; omega), mk_sl (by simp; omega), C, Sub.refl, ?_⟩
            simpa [wrp] using hQ
          | false =>
            rw [hi] at hQ
            rw [if_neg (by decide)]
            exact ⟨C, Sub.refl, hQ⟩
        have lk : List.lookup (cw a) [(Str.ofString "and", GV.wds [Str.ofString "and", Str.ofString "or"]), (Str.ofString "or", GV.wds [Str.ofString "or"])] = some (if a = true then GV.wds [Str.ofString "and", Str.ofString "or"] else GV.wds [Str.ofString "or"]) := by cases a <;> decide +kernel
        refine ⟨_, lk, ?_⟩
        cases a with
        | true =>
          show oInF id (.str w) (.tup [.str (Str.ofString "and"), .str (Str.ofString "or")]) C _
          rw [oInF_str2]
          exact fin _ ip
        | false =>
          show oInF id (.str w) (.tup [.str (Str.ofString "or")]) C _
          exact oInF_str1 (fin _ ip)
      · intro p hp
        have e0 : (ps.filter fun _ => true).map (fun c : Cv => L3.D.str (mkS (wrp (inP a c) (tc c)))) = (tcs a ps).map fun y => L3.D.str (mkS y) := by
          rw [show ps.filter (fun _ => true) = ps from List.filter_eq_self.mpr fun _ _ => rfl, tcs_map, List.map_map]; rfl
        rw [e0]
        have h5 : (tcs a ps).length * (mkl a).length ≤ ps.length * 5 := by rw [l1]; exact Nat.mul_le_mul_left _ e6
        refine oJoin_mk cup_same (by omega) ⟨C, sub_new hp, ?_⟩
        rw [tc] at hq
        exact hq
    | qu a v c =>
      have e1 : PyData.strOk (qw a) = true := by cases a <;> decide +kernel
      have e2 : decide (qw a = Str.ofString "ask") = false := by cases a <;> decide +kernel
      have e3 : ([(Str.ofString "and", GV.wds [Str.ofString "and", Str.ofString "or"]), (Str.ofString "or", GV.wds [Str.ofString "or"])].lookup (qw a)).isSome = false := by cases a <;> decide +kernel
      simp_arith [t_qu]
      rw [rdSs_cons]
      simp_arith []
      refine eq_str (by rw [e1]; decide +kernel) e2 ⟨false, rfl, ?_⟩
      rw [if_neg (by decide), rdSs_cons]
      simp_arith [cGIn, e3]
      rw [rdSs_cons]
      simp_arith [cFst, cJs, cFmt, GG_call]
      have e4 : Str.empty ++ qw a = mkS (qwl a) := by cases a <;> decide +kernel
      have e5 : (qw a).length = 3 := by cases a <;> decide +kernel
      have e6 : (qwl a).length = 3 := by cases a <;> rfl
      have ts := tx_short hg.1.1
      have tl2 := tc_len c hg.2
      have hs2 : csize c.cn ≤ 99 := by rw [Cv.cn, csize] at hs; omega
      have hh2 : ht c.cn ≤ k := by rw [Cv.cn, ht] at hh; omega
      have e7 : Str.ofString ": " = mkS [58, 32] := by decide +kernel
      rw [e4, s_open, app_mk]
      refine ⟨by rw [e5]; omega, mk_sl (by omega), mk_sl (by rw [List.length_append, e6]; show 3 + 1 ≤ _; omega), value_text_ok (n := n + 2 * (k + 1) - 1) hg.1.1 ?_⟩
      simp_arith [app_mk, mkS_len]
      rw [e7]
      simp_arith [app_mk, mkS_len]
      simp only [List.length_append, List.length_cons, List.length_nil, e6]
      refine ⟨by omega, by omega, by omega, ?_⟩
      rw [show n + 2 * (k + 1) + 9 = (n + 1) + 2 * k + 10 by omega]
      refine ih (n + 1) c C _ _ hh2 (by omega) hg.2 ?_
      rw [s_close]
      simp_arith [app_mk, mkS_len]
      simp only [List.length_append, List.length_cons, List.length_nil, e6]
      refine ⟨by omega, by omega, by omega, C, Sub.refl, ?_⟩
      have e8 : tc (.qu a v c) = qwl a ++ [40] ++ tx v ++ [58, 32] ++ tc c ++ [41] := by rw [tc]; simp
      rw [e8] at hq
      exact hq
theorem lvt_ok : ∀ (r n : Nat) (v : Vv) (C : CH) (Q : Kv) (E : Kx), Good r v → r ≤ 8 → Q (.str (mkS (tx v))) C → W (n + r + 2) i__law_value_text [v.t.d] C Q E
  | r, n, .item i, C, Q, E, g, hr, hq => by
    obtain ⟨h1, h3⟩ := good_item.mp g
    obtain ⟨a1, a2, a3, a4⟩ := item_str h1 h3
    rw [W__law_value_text]
    unfold b__law_value_text
    rw [rdSs_cons]
    simp_arith [Vv.t, T.d, GG_kit]
    rw [rdSs_cons]
    simp_arith [oStrI]
    refine ⟨a1, ?_⟩
    have e0 : Str.empty ++ Str.ofString "x" = Str.ofString "x" := by decide +kernel
    rw [e0] at a3 a4
    rw [← a4] at hq
    have ln : (Str.ofString "x" ++ Str.ofString (toString i)).length = (Str.ofString "x").length + (Str.ofString (toString i)).length := by
      rw [len_cps, tl_app, List.length_append, ← len_cps, ← len_cps]
    exact ⟨by rw [← ln]; exact a3, C, Sub.refl, hq⟩
  | r, n, .app1 z a, C, Q, E, g, hr, hq => by
    have big := big5
    have p8 := pow8 hr
    have ts := tx_short g
    obtain ⟨gz, k, rfl, ga⟩ := good_app1.mp g
    have z8 := gz.2.1
    have hlz := len_cps z
    rw [W__law_value_text]
    unfold b__law_value_text
    rw [rdSs_cons]
    simp_arith [Vv.t, T.d, GG_kit]
    rw [rdSs_cons]
    simp_arith [T.ds, T.d, GG_call, cLc, iSeq, lcL, wipe3, cutD_tail, cYes]
    rw [s_open, s_close, s_comma, app_r]
    have lt : (z.cps.toList ++ 40 :: (tx a ++ [41])).length ≤ 14 * 2 ^ (k + 1 + 1) := ts
    simp only [List.length_append, List.length_cons, List.length_nil] at lt
    refine ⟨by rw [mkS_len]; show z.length + 1 ≤ sizeLine; omega, ⟨_, rfl⟩, lvt_ok k n a C _ _ ga (by omega) ?_⟩
    intro p hp
    refine oJoin_mk (ys := [tx a]) cup_same (by simp; omega) ?_
    rw [joinL1]
    simp_arith [app_mk, mkS_len]
    refine ⟨by simp only [List.length_append, List.length_cons, List.length_nil]; omega, by simp only [List.length_append, List.length_cons, List.length_nil]; omega, C, sub_new hp, ?_⟩
    have e : tx (.app1 z a) = z.cps.toList ++ [40] ++ tx a ++ [41] := by simp [tx]
    rw [e] at hq
    exact hq
  | r, n, .app2 z a b, C, Q, E, g, hr, hq => by
    have big := big5
    have p8 := pow8 hr
    have ts := tx_short g
    obtain ⟨gz, k, rfl, ga, gb⟩ := good_app2.mp g
    have z8 := gz.2.1
    have hlz := len_cps z
    rw [W__law_value_text]
    unfold b__law_value_text
    rw [rdSs_cons]
    simp_arith [Vv.t, T.d, GG_kit]
    rw [rdSs_cons]
    simp_arith [T.ds, T.d, GG_call, cLc, iSeq, lcL, wipe3, cutD_tail, cYes]
    rw [s_open, s_close, s_comma, app_r]
    have lt : (z.cps.toList ++ 40 :: (tx a ++ (44 :: 32 :: (tx b ++ [41])))).length ≤ 14 * 2 ^ (k + 1 + 1) := ts
    simp only [List.length_append, List.length_cons, List.length_nil] at lt
    refine ⟨by rw [mkS_len]; show z.length + 1 ≤ sizeLine; omega, ⟨_, rfl⟩, lvt_ok k n a C _ _ ga (by omega) ?_⟩
    refine lvt_ok k n b C _ _ gb (by omega) ?_
    refine ⟨by simp only [List.nil_append, List.length_append, List.length_cons, List.length_nil]; omega, ?_⟩
    intro p hp
    refine oJoin_mk (ys := [tx a, tx b]) cup_same (by simp; omega) ?_
    rw [joinL2]
    simp_arith [app_mk, mkS_len]
    refine ⟨by simp only [List.length_append, List.length_cons, List.length_nil]; omega, by simp only [List.length_append, List.length_cons, List.length_nil]; omega, C, sub_new hp, ?_⟩
    have e : tx (.app2 z a b) = z.cps.toList ++ [40] ++ (tx a ++ ([44, 32] ++ tx b)) ++ [41] := by simp [tx]
    rw [e] at hq
    exact hq
theorem ixL8 {C : CH} {p : Addr} {ds : List D} {i : Int} {d : D} {Q : Kv} (h : C p = some (.lst ds)) (e : L2.atI ds i = some d) (q : Q d C) : oIxA (.ref p) (.int i) C Q := by
  unfold oIxA
  simp only [h]
  exact ⟨i, d, rfl, e, q⟩
theorem inp2 (a : Bool) (c : Cv) {w : Str} {r : List L3.D} (e : c.cn.t.d = .tup (.str w :: r)) : (decide (w = Str.ofString "or") || decide (w = cw a)) = inP a c := by
  rw [← inp_of a c e]
  cases a with
  | true => rw [if_pos rfl, Bool.or_comm]; rfl
  | false => rw [if_neg (by decide)]; show (_ || decide (w = Str.ofString "or")) = _; rw [Bool.or_self]
noncomputable def ctB : List CS := match b__law_condition_text with
  | [_, _, _, _, .forS _ _ _ b, _] => b
  | _ => []
theorem lct_loop {n : Nat} {ex : Kxs} {D0 : EndsC} {C : CH} {p : Addr} {a : Bool} {x0 y4 : Option L3.D} :
    ∀ (qs : List Cv) (done : List (List Nat)) (y3 y5 : Option L3.D), (∀ c ∈ qs, CG c ∧ csize c.cn ≤ 99 ∧ ∀ (C : CH) (Q : Kv) (E : Kx), Q (.str (mkS (tc c))) C → W n i__law_condition_text [c.cn.t.d] C Q E) → done.length + qs.length ≤ 1000 →
      (∀ y3 y5, D0.nx [x0, some (.str (cw a)), some (.ref p), y3, y4, y5] (cup C p (.lst (mkD (done ++ tcs a qs))))) →
      forL (hT (.nm 3)) (rdSs (GG n) ex ctB) (fun _ => True) D0 (qs.map fun c => c.cn.t.d) [x0, some (.str (cw a)), some (.ref p), y3, y4, y5] (cup C p (.lst (mkD done)))
  | [], done, y3, y5, h, hl, hK => ⟨trivial, by have := hK y3 y5; rw [tcs, List.append_nil] at this; exact this⟩
  | c :: qs, done, y3, y5, h, hl, hK => by
    have big := big5
    obtain ⟨hg, hs, hw⟩ := h c (by simp)
    have tl := tc_len c hg
    rw [List.length_cons] at hl
    refine ⟨trivial, _, rfl, ?_⟩
    simp only [ctB, b__law_condition_text]
    rw [rdSs_cons]
    simp_arith [GG_call]
    refine hw _ _ _ ?_
    obtain ⟨w, r, e, _, _⟩ := head_of c
    have ip := inp2 a c e
    rw [e, rdSs_cons]
    simp_arith []
    have go : ∀ (b : Bool), b = inP a c → (if b = true then (Str.ofString "(").length + (mkS (tc c)).length ≤ sizeLine ∧ (Str.ofString "(" ++ mkS (tc c)).length + (Str.ofString ")").length ≤ sizeLine ∧ oAppend (.ref p) [.str (Str.ofString "(" ++ mkS (tc c) ++ Str.ofString ")")] (cup C p (.lst (mkD done))) (fun x C1 => forL (hT (.nm 3)) (rdSs (GG n) ex ctB) (fun _ => True) D0 (qs.map fun c => c.cn.t.d) [x0, some (.str (cw a)), some (.ref p), some (.tup (.str w :: r)), y4, some (.str (mkS (tc c)))] C1) else oAppend (.ref p) [.str (mkS (tc c))] (cup C p (.lst (mkD done))) (fun x C1 => forL (hT (.nm 3)) (rdSs (GG n) ex ctB) (fun _ => True) D0 (qs.map fun c => c.cn.t.d) [x0, some (.str (cw a)), some (.ref p), some (.tup (.str w :: r)), y4, some (.str (mkS (tc c)))] C1)) := fun b hb => by
      have rec_ : ∀ y : List Nat, y = wrp (inP a c) (tc c) → oAppend (.ref p) [.str (mkS y)] (cup C p (.lst (mkD done))) (fun x C1 => forL (hT (.nm 3)) (rdSs (GG n) ex ctB) (fun _ => True) D0 (qs.map fun c => c.cn.t.d) [x0, some (.str (cw a)), some (.ref p), some (.tup (.str w :: r)), y4, some (.str (mkS (tc c)))] C1) := fun y hy => by
        refine ⟨p, _, _, rfl, rfl, cup_same, by rw [List.length_map]; omega, ?_⟩
        rw [cup_cup]
        have := lct_loop qs (done ++ [y]) (some (.tup (.str w :: r))) (some (.str (mkS (tc c)))) (fun c hc => h c (List.mem_cons_of_mem _ hc)) (by rw [List.length_append, List.length_singleton]; omega) (fun y3 y5 => by
          have := hK y3 y5
          rw [tcs, ← hy] at this
          rw [List.append_assoc]
          exact this) (n := n) (ex := ex) (C := C) (a := a) (x0 := x0) (y4 := y4)
        simp only [mkD, List.map_append, List.map_cons, List.map_nil] at this ⊢
        exact this
      subst hb
      cases hi : inP a c with
      | true =>
        rw [hi] at rec_
        rw [if_pos rfl, s_open, s_close, app_mk, app_mk, mkS_len [40], mkS_len [41], mkS_len (tc c), mkS_len ([40] ++ tc c)]
        refine ⟨by simp; omega, by simp; omega, rec_ _ ?_⟩
        simp [wrp]
      | false =>
        rw [hi] at rec_
        rw [if_neg (by decide)]
        exact rec_ _ rfl
    exact ⟨isLst_of cup_same, go _ ip⟩
/-- the law's own text of a condition -/
theorem lct_ok : ∀ (k n : Nat) (c : Cv) (C : CH) (Q : Kv) (E : Kx), ht c.cn ≤ k → csize c.cn ≤ 100 → CG c → Q (.str (mkS (tc c))) C → W (n + k + 10) i__law_condition_text [c.cn.t.d] C Q E := by
  intro k
  induction k with
  | zero => intro n c C Q E hh; cases c <;> simp [Cv.cn, ht] at hh
  | succ k ih =>
    intro n c C Q E hh hs hg hq
    have big := big5
    have tl := tc_len c hg
    rw [W__law_condition_text]
    unfold b__law_condition_text
    rw [rdSs_cons]
    cases c with
    | ask v w =>
      have ts := tx_short hg.1
      have en : Str.ofString "not " = mkS (lNot ++ [32]) := by decide +kernel
      have ee : Str.ofString "" = mkS [] := by decide +kernel
      simp_arith [t_ask]
      rw [rdSs_cons]
      simp_arith []
      refine eq_str (by decide +kernel) (show _ = true by decide +kernel) ⟨true, rfl, ?_⟩
      rw [if_pos rfl, rdSs_cons]
      simp_arith [GG_call, oLst]
      intro p hp
      rw [en, ee]
      cases w with
      | true =>
        refine ixL8 cup_same (d := .str (mkS [])) rfl (lvt_ok 4 (n + k + 4) v _ _ _ hg.1 (by decide) ?_)
        simp_arith [app_mk, mkS_len]
        rw [tc, if_pos rfl] at hq
        exact ⟨by omega, C, sub_new hp, hq⟩
      | false =>
        refine ixL8 cup_same (d := .str (mkS (lNot ++ [32]))) rfl (lvt_ok 4 (n + k + 4) v _ _ _ hg.1 (by decide) ?_)
        simp_arith [app_mk, mkS_len]
        rw [tc, if_neg (by decide)] at hq
        refine ⟨by rw [List.length_append]; show 3 + 1 + _ ≤ _; omega, C, sub_new hp, ?_⟩
        rw [List.append_assoc]
        exact hq
    | con a ps =>
      have e1 : PyData.strOk (cw a) = true := by cases a <;> decide +kernel
      have e2 : decide (cw a = Str.ofString "ask") = false := by cases a <;> decide +kernel
      have e3 : (decide (cw a = Str.ofString "any") || decide (cw a = Str.ofString "all")) = false := by cases a <;> decide +kernel
      simp_arith [t_con]
      rw [rdSs_cons]
      simp_arith []
      refine eq_str (by rw [e1]; decide +kernel) e2 ⟨false, rfl, ?_⟩
      rw [if_neg (by decide), rdSs_cons]
      simp_arith [e3]
      rw [rdSs_cons]
      simp_arith [oLst]
      intro p hp
      rw [rdSs_cons]
      simp_arith [sFor, iSeq]
      have e4 : Str.ofString " " ++ cw a ++ Str.ofString " " = mkS (mkl a) := by cases a <;> decide +kernel
      have e5 : (Str.ofString " ").length ≤ 100 ∧ (cw a).length ≤ 100 ∧ (Str.ofString " " ++ cw a).length ≤ 100 := by cases a <;> decide +kernel
      have e6 := mkl_len a
      have csz := hs
      rw [Cv.cn, csize] at csz
      have sml := tcs_len a ps hg.2
      have l1 : (tcs a ps).length = ps.length := by rw [tcs_map, List.length_map]
      have hk : hts (Cv.cns ps) ≤ k := by rw [Cv.cn, ht] at hh; omega
      refine (show forL (hT (.nm 3)) (rdSs (GG (n + (k + 1) + 9)) (exN E) ctB) (fun _ => True) _ (ps.map fun c => c.cn.t.d) [some (.tup [.str (cw a), .tup (ps.map fun c => c.cn.t.d)]), some (.str (cw a)), some (.ref p), none, none, none] (cup C p (.lst (mkD []))) from
        lct_loop (n := n + (k + 1) + 9) ps [] none none (fun c hc => ⟨hg.2.mem c hc, by have := (hts_of hc).2; omega, fun C Q E hq => by
          rw [show n + (k + 1) + 9 = n + k + 10 by omega]
          exact ih n c C Q E (Nat.le_trans (hts_of hc).1 hk) (by have := (hts_of hc).2; omega) (hg.2.mem c hc) hq⟩) (by
            have : ps.length ≤ csizes (Cv.cns ps) := by rw [← Cv.cns_len]; exact csizes_len _
            rw [List.length_nil]; omega) fun y3 y5 => ?_)
      dsimp only
      rw [rdSs_cons]
      simp_arith []
      rw [e4]
      have h5 : (tcs a ps).length * (mkl a).length ≤ ps.length * 5 := by rw [l1]; exact Nat.mul_le_mul_left _ e6
      refine ⟨by omega, by omega, ⟨_, rfl⟩, ?_⟩
      refine oJoin_mk (ys := tcs a ps) cup_same (by omega) ⟨C, sub_new hp, ?_⟩
      rw [tc] at hq
      exact hq
    | qu a v c =>
      have e1 : PyData.strOk (qw a) = true := by cases a <;> decide +kernel
      have e2 : decide (qw a = Str.ofString "ask") = false := by cases a <;> decide +kernel
      have e3 : (decide (qw a = Str.ofString "any") || decide (qw a = Str.ofString "all")) = true := by cases a <;> decide +kernel
      simp_arith [t_qu]
      rw [rdSs_cons]
      simp_arith []
      refine eq_str (by rw [e1]; decide +kernel) e2 ⟨false, rfl, ?_⟩
      rw [if_neg (by decide), rdSs_cons]
      simp_arith [e3]
      rw [rdSs_cons]
      simp_arith [GG_call]
      have e4 : qw a = mkS (qwl a) := by cases a <;> decide +kernel
      have e6 : (qwl a).length = 3 := by cases a <;> rfl
      have ts := tx_short hg.1.1
      have tl2 := tc_len c hg.2
      have hs2 : csize c.cn ≤ 99 := by rw [Cv.cn, csize] at hs; omega
      have hh2 : ht c.cn ≤ k := by rw [Cv.cn, ht] at hh; omega
      have e7 : Str.ofString ": " = mkS [58, 32] := by decide +kernel
      rw [show n + (k + 1) + 9 = n + k + 10 by omega]
      refine ih n c C _ _ hh2 (by omega) hg.2 ?_
      rw [rdSs_cons]
      simp_arith [GG_call]
      rw [e4, e7, s_open, s_close]
      refine ⟨by rw [mkS_len, mkS_len, e6]; show 3 + 1 ≤ _; omega, ?_⟩
      rw [show n + k + 10 = (n + k + 4) + 4 + 2 by omega]
      refine lvt_ok 4 (n + k + 4) v _ _ _ hg.1.1 (by decide) ?_
      simp_arith [app_mk, mkS_len]
      simp only [List.length_append, List.length_cons, List.length_nil, e6]
      refine ⟨by omega, by omega, by omega, by omega, C, Sub.refl, ?_⟩
      have e8 : tc (.qu a v c) = qwl a ++ [40] ++ tx v ++ [58, 32] ++ tc c ++ [41] := by rw [tc]; simp
      rw [e8] at hq
      exact hq
mutual
theorem cg_ok : ∀ (c : Cv), CG c → okT c.cn.t = true ∧ c.cn.t.p.depth ≤ 2 * ht c.cn + 4
  | .ask v w, h => by
    have h0 : okT (.str "ask") = true := by decide +kernel
    obtain ⟨h1, h2, _⟩ := ok_vv v h.1.1
    have h4 := h.1.2.2
    refine ⟨?_, ?_⟩
    · simp only [Cv.cn, Cn.t, okT, okTs, Bool.and_true] at *
      rw [h0, h1]; rfl
    · simp only [Cv.cn, Cn.t, T.p, T.pl, PyData.depth, PyData.depthAll, ht]; omega
  | .con a ps, h => by
    obtain ⟨h1, h2⟩ := cgs_ok ps h.2
    have h0 := ok_cw a
    refine ⟨?_, ?_⟩
    · simp only [Cv.cn, Cn.t, okT, okTs, Bool.and_true] at *
      rw [h0, h1]; rfl
    · simp only [Cv.cn, Cn.t, T.p, T.pl, PyData.depth, PyData.depthAll, ht]; omega
  | .qu a v c, h => by
    obtain ⟨t1, t2, _⟩ := ok_vv v h.1.1.1
    have h4 := h.1.1.2.2
    obtain ⟨h1, h2⟩ := cg_ok c h.2
    have h0 := ok_qw a
    have hp := ht_pos c.cn
    refine ⟨?_, ?_⟩
    · simp only [Cv.cn, Cn.t, okT, okTs, Bool.and_true] at *
      rw [h0, h1, t1]; rfl
    · simp only [Cv.cn, Cn.t, T.p, T.pl, PyData.depth, PyData.depthAll, ht]; omega
theorem cgs_ok : ∀ (cs : List Cv), CGs cs → okTs (Cn.ts (Cv.cns cs)) = true ∧ PyData.depthAll (T.pl (Cn.ts (Cv.cns cs))) ≤ 2 * hts (Cv.cns cs) + 4
  | [], h => ⟨rfl, by simp [Cv.cns, Cn.ts, T.pl, PyData.depthAll]⟩
  | c :: cs, h => by
    obtain ⟨h1, h2⟩ := cg_ok c h.1
    obtain ⟨k1, k2⟩ := cgs_ok cs h.2
    refine ⟨?_, ?_⟩
    · simp only [Cv.cns, Cn.ts, okTs, h1, k1, Bool.and_self]
    · simp only [Cv.cns, Cn.ts, T.pl, PyData.depthAll, hts]; omega
end
theorem term_of_ok {n : Nat} {v : Vv} {C : CH} {Q : Kv} {E : Kx} (g : Good 4 v) (a : isApp v = true) (hq : Q v.t.d C) : W (n + 10) i_term_of [.str (mkS (tx v))] C Q E := by
  have big := big5
  have ts := tx_short g
  have so : PyData.strOk (mkS (tx v)) = true := so_iff.mpr (by rw [tl_mkS]; exact tx_so g)
  have rd : rdP 4 (mkS (tx v)).cps.toList = some (v, []) := by
    have := rdP_complete v 4 [] g ends_nil
    rw [List.append_nil] at this
    rw [tl_mkS]; exact this
  rw [W_term_of]
  unfold b_term_of
  rw [rdSs_cons]
  simp_arith [GG_call]
  rw [W_value_of]
  unfold b_value_of
  rw [rdSs_cons]
  simp_arith [GG_call]
  unfold sTry
  dsimp only
  rw [rdSs_cons]
  simp_arith [GG_call]
  refine read_value_ok (n := n + 1) (mk_sl (by omega)) so (fun w e => ?_) fun no => absurd rd (no v)
  rw [rd] at e
  cases e
  rw [rdSs_cons]
  simp_arith []
  refine ⟨C, Sub.refl, ?_⟩
  rw [rdSs_cons]
  cases v with
  | item i => cases a
  | app1 z x =>
    rw [app1_d] at hq ⊢
    simp_arith [GG_kit]
    exact ⟨C, Sub.refl, hq⟩
  | app2 z x y =>
    rw [app2_d] at hq ⊢
    simp_arith [GG_kit]
    exact ⟨C, Sub.refl, hq⟩
/-- the parts of an «or», of an «and» -/
noncomputable def sp (a : Bool) : Cv → List Cv
  | .con b ps => if b = a then ps else [.con b ps]
  | c => [c]
theorem eqv_none (t : Cv) : PyData.eqv t.cn.t.p .none = false := by cases t <;> rfl
theorem no_none {C : CH} {p : Addr} {ps : List Cv} {Q : Kv} (h : CGs ps) (hh : hts (Cv.cns ps) ≤ 28) (hp : C p = some (.lst (ps.map fun c => c.cn.t.d))) (q : Q (.bl false) C) : oInD id .non (.ref p) C Q := by
  have e1 : (ps.map fun c => c.cn.t.d) = T.ds (ps.map fun c => c.cn.t) := by
    clear h hh hp
    induction ps with
    | nil => rfl
    | cons c cs ih => rw [List.map_cons, List.map_cons, T.ds, ih]
  rw [e1] at hp
  refine inD_ts (v := .non) hp (fun t ht => ?_) rfl (by decide) ?_
  · obtain ⟨c, hc, rfl⟩ := List.mem_map.mp ht
    have := cg_ok c (h.mem c hc)
    have h2 := (hts_of hc).1
    exact ⟨this.1, by omega⟩
  · have e : inT .non (ps.map fun c => c.cn.t) = false := by
      clear h hh hp e1
      unfold inT
      induction ps with
      | nil => rfl
      | cons c cs ih =>
        rw [List.map_cons, T.pl, List.any_cons, ih, Bool.or_false]
        exact eqv_none c
    rw [e]; exact q
theorem combined_ok {n : Nat} {a : Bool} {C : CH} {p : Addr} {ps : List Cv} {Q : Kv} {E : Kx} (h : CGs ps) (hh : hts (Cv.cns ps) ≤ 28) (hl : ps.length ≤ 1000) (hp : C p = some (.lst (ps.map fun c => c.cn.t.d)))
    (h1 : ∀ c, ps = [c] → Q c.cn.t.d C) (h2 : ps.length ≠ 1 → Q (Cv.con a ps).cn.t.d C) : W (n + 1) i_combined [.str (cw a), .ref p] C Q E := by
  have big := big5
  rw [W_combined]
  unfold b_combined
  rw [rdSs_cons]
  simp_arith []
  refine no_none h hh hp ⟨false, rfl, ?_⟩
  rw [if_neg (by decide), rdSs_cons]
  simp_arith [hp]
  rw [List.length_map]
  by_cases h0 : ps.length = 1
  · obtain ⟨c, rfl⟩ := List.length_eq_one_iff.mp h0
    rw [if_pos (by simp)]
    exact ixL8 hp rfl ⟨C, Sub.refl, h1 c rfl⟩
  · rw [if_neg (by simp only [decide_eq_true_eq]; omega)]
    refine oTuple_lst hp ⟨C, Sub.refl, ?_⟩
    have := h2 h0
    rw [t_con] at this
    exact this
theorem atI_end {α : Type} {xs : List α} {x : α} : L2.atI (xs ++ [x]) (-1) = some x := by
  rw [atI_last (by simp)]
  simp
theorem so_mk {l : List Nat} (h : ∀ c ∈ l, c < 1114112) : PyData.strOk (mkS l) = true := so_iff.mpr (by rw [tl_mkS]; exact h)
theorem sp_con {a b : Bool} {ps : List Cv} : sp a (.con b ps) = if b = a then ps else [.con b ps] := rfl
theorem CGs.sp {a : Bool} {c : Cv} (h : CG c) : CGs (sp a c) := by
  cases c with
  | con b ps =>
    rw [sp_con]; split
    · exact h.2
    · exact ⟨h, trivial⟩
  | ask v w => exact ⟨h, trivial⟩
  | qu b v c => exact ⟨h, trivial⟩
theorem sp_ne {a : Bool} {c : Cv} (h : CG c) : tcs a (sp a c) ≠ [] := by
  cases c with
  | con b ps =>
    rw [sp_con]; split
    · exact tcs_ne h.1
    · simp [tcs]
  | ask v w => simp [My.sp, tcs]
  | qu b v c => simp [My.sp, tcs]
theorem sp_ht {a : Bool} {c : Cv} (h : CG c) : hts (Cv.cns (sp a c)) ≤ ht c.cn ∧ csizes (Cv.cns (sp a c)) ≤ csize c.cn := by
  cases c with
  | con b ps =>
    rw [sp_con]
    split
    · simp only [Cv.cn, ht, csize]; omega
    · simp only [Cv.cns, hts, csizes]; omega
  | ask v w => simp only [My.sp, Cv.cns, hts, csizes]; omega
  | qu b v c => simp only [My.sp, Cv.cns, hts, csizes]; omega
theorem sp_or (c : Cv) : TL.joinL (mkl false) (tcs false (sp false c)) = tc c := by
  cases c with
  | con b ps =>
    cases b with
    | false => rw [tc]; rfl
    | true => simp [My.sp, tcs, wrp, inP, TL.joinL]
  | ask v w => simp [My.sp, tcs, wrp, inP, TL.joinL]
  | qu b v c => simp [My.sp, tcs, wrp, inP, TL.joinL]
theorem sp_and (c : Cv) : TL.joinL (mkl true) (tcs true (sp true c)) = wrp (inP false c) (tc c) := by
  cases c with
  | con b ps =>
    cases b with
    | true => simp only [inP, Bool.not_true, Bool.or_self]; rw [tc]; simp [My.sp, wrp]
    | false => simp [My.sp, tcs, wrp, inP, TL.joinL]
  | ask v w => simp [My.sp, tcs, wrp, inP, TL.joinL]
  | qu b v c => simp [My.sp, tcs, wrp, inP, TL.joinL]
theorem lp_all {m : List Nat} (hm : m ≠ []) {ys : List (List Nat)} (hy : ys ≠ []) (h : ∀ y ∈ ys, ∀ r, Scan m 0 y r 0) {k : Nat} (hk : (TL.joinL m ys).length ≤ k) : (lp m k (TL.joinL m ys) 0 []).1 ++ [(lp m k (TL.joinL m ys) 0 []).2] = ys := by
  obtain ⟨init, last, rfl⟩ : ∃ init last, ys = init ++ [last] := ⟨ys.dropLast, ys.getLast hy, (List.dropLast_concat_getLast hy).symm⟩
  rw [lp_join hm init last h k hk]
theorem split_ok {n : Nat} {m : List Nat} {ys : List (List Nat)} {C : CH} {Q : Kv} {E : Kx} (hm : m ≠ []) (hml : m.length ≤ 10) (som : PyData.strOk (mkS m) = true) (hy : ys ≠ []) (h : ∀ y ∈ ys, ∀ r, Scan m 0 y r 0) (hl : (TL.joinL m ys).length ≤ 50000) (so : ∀ x ∈ TL.joinL m ys, x < 1114112)
    (hq : ∀ q C', Sub C C' → C' q = some (.lst (mkD ys)) → Q (.ref q) C') : W (n + 1) i_pieces_of [.str (mkS (TL.joinL m ys)), .str (mkS m)] C Q E := by
  refine pieces_ok (by rw [mkS_len]; exact hl) (so_mk so) som hm hml fun q C' hs e => hq q C' hs ?_
  rw [e, tl_mkS, lp_all hm hy h (by rw [mkS_len]; exact Nat.le_refl _)]
theorem mkl_mk (a : Bool) : Str.ofString (if a = true then " and " else " or ") = mkS (mkl a) := by cases a <;> decide +kernel
theorem mkl_ne (a : Bool) : mkl a ≠ [] := by simp [mkl]
theorem mkD_tcs (a : Bool) (ps : List Cv) : mkD (tcs a ps) = ps.map fun c => L3.D.str (mkS (wrp (inP a c) (tc c))) := by
  rw [tcs_map, mkD, List.map_map]; rfl
theorem sp_one {a : Bool} {c x : Cv} (h : CG c) (e : sp a c = [x]) : x = c := by
  cases c with
  | con b ps =>
    rw [sp_con] at e
    split at e
    · have := h.1; rw [e] at this; simp at this
    · cases e; rfl
  | ask v w => cases e; rfl
  | qu b v c => cases e; rfl
theorem sp_more {a : Bool} {c : Cv} (h : CG c) (e : (sp a c).length ≠ 1) : Cv.con a (sp a c) = c := by
  cases c with
  | con b ps =>
    rw [sp_con] at e ⊢
    split at e
    · rename_i hb; rw [if_pos hb, hb]
    · exact absurd rfl e
  | ask v w => exact absurd rfl e
  | qu b v c => exact absurd rfl e
theorem sp_len {a : Bool} {c : Cv} (h : CG c) (hs : csize c.cn ≤ 100) : (sp a c).length ≤ 100 := by
  have h1 := (sp_ht (a := a) h).2
  have h2 : (sp a c).length ≤ csizes (Cv.cns (sp a c)) := by rw [← Cv.cns_len]; exact csizes_len _
  omega
/-- what is made of the parts of a text -/
theorem conj_ok {n : Nat} {c : Cv} {left : Int} {C : CH} {Q : Kv} {E : Kx} (hg : CG c) (hh : ht c.cn ≤ 28) (hs : csize c.cn ≤ 100)
    (hu : ∀ x ∈ sp true c, ∀ (C : CH) (Q : Kv) (E : Kx), Q x.cn.t.d C → W (n + 1) i_unit_of [.str (mkS (wrp (inP true x) (tc x))), .int left] C Q E)
    (hq : Q c.cn.t.d C) : W (n + 2) i_conjunction_of [.str (mkS (wrp (inP false c) (tc c))), .int left] C Q E := by
  have big := big5
  have tl := tc_len c hg
  have wl := wrp_len (inP false c) (tc c)
  rw [W_conjunction_of]
  unfold b_conjunction_of
  rw [rdSs_cons]
  simp_arith [GG_call, cLc, iSeq]
  have em : Str.ofString " and " = mkS (mkl true) := mkl_mk true
  rw [em, ← sp_and c]
  refine split_ok (n := n) (mkl_ne true) (by decide) (by decide +kernel) (sp_ne hg) (fun y hy => (parts_and (CGs.sp hg) y hy).scan true) (by rw [sp_and]; omega) (by rw [sp_and]; exact wrp_so (tc_so c hg)) fun q C' hsub hq' => ?_
  rw [mkD_tcs] at hq'
  refine ⟨_, .inr ⟨q, rfl, hq', ?_⟩⟩
  refine lcL_if (fun c : Cv => L3.D.str (mkS (wrp (inP true c) (tc c)))) (fun c : Cv => c.cn.t.d) (fun _ => true) (G := fun C => C q = some (.lst ((sp true c).map fun c => L3.D.str (mkS (wrp (inP true c) (tc c)))))) (C := C') hq' (sp true c) (fun x hx => ⟨_, rfl, fun Q' h => h, fun Q' hQ => ?_⟩) (by have := sp_len (a := true) hg hs; omega) ?_
  · simp_arith [wipe3]
    exact hu x hx _ _ _ hQ
  · intro p hp
    rw [show (sp true c).filter (fun _ => true) = sp true c from List.filter_eq_self.mpr fun _ _ => rfl]
    refine combined_ok (n := n) (a := true) (CGs.sp hg) (Nat.le_trans (sp_ht hg).1 hh) (by have := sp_len (a := true) hg hs; omega) cup_same (fun x e => ⟨C, hsub.trans (sub_new hp), ?_⟩) fun e => ⟨C, hsub.trans (sub_new hp), ?_⟩
    · rw [sp_one hg e]; exact hq
    · rw [sp_more hg e]; exact hq
theorem cond_of_ok {n : Nat} {c : Cv} {left : Int} {C : CH} {Q : Kv} {E : Kx} (hg : CG c) (hh : ht c.cn ≤ 28) (hs : csize c.cn ≤ 100) (h0 : left ≠ 0)
    (hu : ∀ x ∈ sp false c, ∀ (C : CH) (Q : Kv) (E : Kx), Q x.cn.t.d C → W (n + 1) i_conjunction_of [.str (mkS (wrp (inP false x) (tc x))), .int left] C Q E)
    (hq : Q c.cn.t.d C) : W (n + 2) i_condition_of [.str (mkS (tc c)), .int left] C Q E := by
  have big := big5
  have tl := tc_len c hg
  rw [W_condition_of]
  unfold b_condition_of
  rw [rdSs_cons]
  simp_arith []
  rw [if_neg (by simp [h0])]
  rw [rdSs_cons]
  simp_arith [GG_call, cLc, iSeq]
  have em : Str.ofString " or " = mkS (mkl false) := mkl_mk false
  rw [em, ← sp_or c]
  refine split_ok (n := n) (mkl_ne false) (by decide) (by decide +kernel) (sp_ne hg) (fun y hy => parts_or (CGs.sp hg) y hy) (by rw [sp_or]; omega) (by rw [sp_or]; exact tc_so c hg) fun q C' hsub hq' => ?_
  rw [mkD_tcs] at hq'
  refine ⟨_, .inr ⟨q, rfl, hq', ?_⟩⟩
  refine lcL_if (fun c : Cv => L3.D.str (mkS (wrp (inP false c) (tc c)))) (fun c : Cv => c.cn.t.d) (fun _ => true) (G := fun C => C q = some (.lst ((sp false c).map fun c => L3.D.str (mkS (wrp (inP false c) (tc c)))))) (C := C') hq' (sp false c) (fun x hx => ⟨_, rfl, fun Q' h => h, fun Q' hQ => ?_⟩) (by have := sp_len (a := false) hg hs; omega) ?_
  · simp_arith [wipe3]
    exact hu x hx _ _ _ hQ
  · intro p hp
    rw [show (sp false c).filter (fun _ => true) = sp false c from List.filter_eq_self.mpr fun _ _ => rfl]
    refine combined_ok (n := n) (a := false) (CGs.sp hg) (Nat.le_trans (sp_ht hg).1 hh) (by have := sp_len (a := false) hg hs; omega) cup_same (fun x e => ⟨C, hsub.trans (sub_new hp), ?_⟩) fun e => ⟨C, hsub.trans (sub_new hp), ?_⟩
    · rw [sp_one hg e]; exact hq
    · rw [sp_more hg e]; exact hq
/-- a part in parentheses -/
theorem unit_con {n : Nat} {c : Cv} {left : Int} {C : CH} {Q : Kv} {E : Kx} (hg : CG c) (hs : csize c.cn ≤ 100)
    (hu : W n i_condition_of [.str (mkS (tc c)), .int (left - 1)] C (fun d C' => ∃ C1, Sub C1 C' ∧ Q d C1) (fun y C' => ∃ C1, Sub C1 C' ∧ E y C1)) : W (n + 1) i_unit_of [.str (mkS (wrp true (tc c))), .int left] C Q E := by
  have big := big5
  have tl := tc_len c hg
  have e : wrp true (tc c) = 40 :: (tc c ++ [41]) := rfl
  have so : ∀ x ∈ wrp true (tc c), x < 1114112 := wrp_so (tc_so c hg)
  have wl := wrp_len true (tc c)
  have hz : (mkS (wrp true (tc c))).length ≤ sizeLine := mk_sl (by omega)
  rw [W_unit_of]
  unfold b_unit_of
  rw [rdSs_cons]
  simp_arith []
  have c1 : L2.cutS (mkS (wrp true (tc c))) none (some 1) = mkS [40] := by
    rw [show (1 : Int) = ((1 : Nat) : Int) from rfl, cutS_hi, tl_mkS, e]; rfl
  rw [c1, s_open]
  refine ⟨hz, ?_⟩
  refine eq_str (by decide +kernel) (decide_eq_true rfl) ⟨true, rfl, ?_⟩
  rw [if_pos rfl, rdSs_cons]
  simp_arith []
  have c2 : L2.cutS (mkS (wrp true (tc c))) (some 1) (some (-1)) = mkS (tc c) := by
    have h := cutS_in (mkS (wrp true (tc c))) 1 (by rw [mkS_len, e]; simp)
    rw [tl_mkS, e] at h
    rw [e]
    exact h.trans (by simp)
  refine ⟨hz, 41, by rw [e]; exact atI_end (xs := 40 :: tc c), ?_⟩
  rw [s_close]
  refine eq_str (by decide +kernel) (show decide ((⟨#[41]⟩ : Str) = mkS [41]) = true from decide_eq_true rfl) ⟨true, rfl, ?_⟩
  rw [if_pos rfl, c2]
  exact ⟨hz, hu⟩
theorem first_not {l : List Nat} (h : ∀ r, l ≠ 40 :: r) : decide (mkS (l.take 1) = mkS [40]) = false := by
  refine decide_eq_false fun e => ?_
  rw [mkS_inj] at e
  cases l with
  | nil => cases e
  | cons c r => rw [List.take_succ_cons, List.take_zero] at e; injection e with e; exact h r (by rw [e])
theorem tup_of (c : Cv) : ∃ ds, c.cn.t.d = .tup ds := by obtain ⟨w, r, e, _, _⟩ := head_of c; exact ⟨_, e⟩
theorem app_tup {v : Vv} (a : isApp v = true) : ∃ ds, v.t.d = .tup ds := by
  cases v with
  | item i => cases a
  | app1 z x => exact ⟨_, app1_d⟩
  | app2 z x y => exact ⟨_, app2_d⟩
theorem search_ok {n : Nat} {a : Bool} {v : Vv} {c : Cv} {C : CH} {Q : Kv} {E : Kx} (hg : CG (.qu a v c)) (hq : Q (Cv.qu a v c).cn.t.d C) : W (n + 11) i_search_of [.str (qw a), .str (mkS (tx v)), c.cn.t.d] C Q E := by
  obtain ⟨ds, e1⟩ := tup_of c
  obtain ⟨es, e2⟩ := app_tup hg.1.2
  rw [t_qu] at hq
  rw [W_search_of]
  unfold b_search_of
  rw [rdSs_cons]
  simp_arith [GG_call]
  refine term_of_ok (n := n) hg.1.1 hg.1.2 ?_
  rw [rdSs_cons]
  rw [e1, e2] at hq ⊢
  simp_arith []
  exact ⟨C, Sub.refl, hq⟩
/-- a search -/
theorem unit_qu {n : Nat} {a : Bool} {v : Vv} {c : Cv} {left : Int} {C : CH} {Q : Kv} {E : Kx} (hg : CG (.qu a v c)) (hs : csize (Cv.qu a v c).cn ≤ 100)
    (hu : ∀ (C : CH) (Q : Kv) (E : Kx), Q c.cn.t.d C → W (n + 12) i_condition_of [.str (mkS (tc c)), .int (left - 1)] C Q E) (hq : Q (Cv.qu a v c).cn.t.d C) : W (n + 13) i_unit_of [.str (mkS (tc (.qu a v c))), .int left] C Q E := by
  have big := big5
  have tl := tc_len _ hg
  have e : tc (.qu a v c) = qwl a ++ 40 :: ((tx v ++ 58 :: 32 :: tc c) ++ [41]) := by rw [tc]
  have so := tc_so _ hg
  have hz : (mkS (tc (.qu a v c))).length ≤ sizeLine := mk_sl (by omega)
  have c1 : L2.cutS (mkS (tc (.qu a v c))) none (some 1) = mkS ((tc (.qu a v c)).take 1) := by
    rw [show (1 : Int) = ((1 : Nat) : Int) from rfl, cutS_hi, tl_mkS]
  have c4 : L2.cutS (mkS (tc (.qu a v c))) none (some 4) = mkS (qwl a ++ [40]) := by
    rw [show (4 : Int) = ((4 : Nat) : Int) from rfl, cutS_hi, tl_mkS, e]
    cases a <;> rfl
  have c3 : L2.cutS (mkS (tc (.qu a v c))) none (some 3) = qw a := by
    rw [show (3 : Int) = ((3 : Nat) : Int) from rfl, cutS_hi, tl_mkS, e]
    have : qw a = mkS (qwl a) := by cases a <;> decide +kernel
    rw [this]
    cases a <;> rfl
  have c5 : L2.cutS (mkS (tc (.qu a v c))) (some 4) (some (-1)) = mkS (TL.joinL lcol [tx v, tc c]) := by
    rw [show (4 : Int) = ((4 : Nat) : Int) from rfl, cutS_in _ _ (by rw [mkS_len, e, List.length_append, List.length_cons]; omega), tl_mkS, e]
    have : TL.joinL lcol [tx v, tc c] = tx v ++ 58 :: 32 :: tc c := rfl
    rw [this]
    congr 1
    cases a <;> (show (((tx v ++ 58 :: 32 :: tc c) ++ [41])).dropLast = _; exact List.dropLast_concat)
  have h1 : decide (mkS ((tc (.qu a v c)).take 1) = mkS [40]) = false := first_not fun r => by rw [e]; cases a <;> (intro h; injection h with h; cases h)
  have h4 : (decide (mkS (qwl a ++ [40]) = Str.ofString "any(") || decide (mkS (qwl a ++ [40]) = Str.ofString "all(")) = true := by cases a <;> decide +kernel
  rw [W_unit_of]
  unfold b_unit_of
  rw [rdSs_cons]
  simp_arith []
  rw [c1, s_open]
  refine ⟨hz, ?_⟩
  refine eq_str (by rw [so_mk fun x hx => so x (List.mem_of_mem_take hx)]; decide +kernel) h1 ⟨false, rfl, ?_⟩
  rw [if_neg (by decide), rdSs_cons]
  simp_arith []
  rw [c4]
  simp_arith [h4]
  refine ⟨hz, hz, 41, by rw [e, ← List.cons_append, ← List.append_assoc]; exact atI_end, ?_⟩
  rw [s_close]
  refine eq_str (by decide +kernel) (show decide ((⟨#[41]⟩ : Str) = mkS [41]) = true from decide_eq_true rfl) ⟨true, rfl, ?_⟩
  have e7 : Str.ofString ": " = mkS lcol := by decide +kernel
  rw [if_pos rfl, rdSs_cons]
  simp_arith [GG_call]
  rw [c5, e7]
  have vt := vt_tx v 4 hg.1.1
  have vc := vt_tc c hg.2
  have tl2 := tc_len c hg.2
  have tsx := tx_short hg.1.1
  have jl : TL.joinL lcol [tx v, tc c] = tx v ++ (lcol ++ tc c) := rfl
  refine ⟨hz, split_ok (n := n + 11) (ys := [tx v, tc c]) (by decide) (by decide) (by decide +kernel) (by simp) (fun y hy => ?_) ?_ ?_ fun q C' hsub hq' => ?_⟩
  · simp only [List.mem_cons, List.not_mem_nil, or_false] at hy
    rcases hy with rfl | rfl
    · exact vt.col
    · exact vc.col
  · rw [jl, List.length_append, List.length_append]
    have : csize c.cn ≤ 99 := by rw [Cv.cn, csize] at hs; omega
    show _ + (2 + _) ≤ _
    omega
  · rw [jl]
    intro x hx
    rcases List.mem_append.mp hx with hx | hx
    · exact tx_so hg.1.1 x hx
    · rcases List.mem_append.mp hx with hx | hx
      · simp only [lcol, List.mem_cons, List.not_mem_nil, or_false] at hx; omega
      · exact tc_so c hg.2 x hx
  rw [rdSs_cons]
  simp_arith [hq', GG_call]
  rw [rdSs_cons]
  simp_arith [GG_call]
  rw [c3]
  refine ⟨hz, ixL8 hq' rfl (ixL8 hq' rfl ?_)⟩
  refine hu _ _ _ ?_
  exact search_ok (n := n + 1) hg ⟨C, hsub, hq⟩
theorem same_begun : ∀ {q z s : List Nat}, (∀ c ∈ q, sgn c = true) → (∀ c ∈ z, sgn c = true) → (q ++ [40]).isPrefixOf (z ++ 40 :: s) = true → q = z
  | [], [], s, _, _, _ => rfl
  | [], c :: z, s, _, hz, h => by
    have := hz c List.mem_cons_self
    simp only [List.nil_append, List.cons_append, List.isPrefixOf, Bool.and_true, beq_iff_eq] at h
    rw [← h, sg40] at this; cases this
  | a :: q, [], s, hq, _, h => by
    have := hq a List.mem_cons_self
    simp only [List.nil_append, List.cons_append, List.isPrefixOf, Bool.and_eq_true, beq_iff_eq] at h
    rw [h.1, sg40] at this; cases this
  | a :: q, c :: z, s, hq, hz, h => by
    simp only [List.cons_append, List.isPrefixOf, Bool.and_eq_true, beq_iff_eq] at h
    rw [h.1, same_begun (fun x hx => hq x (List.mem_cons_of_mem _ hx)) (fun x hx => hz x (List.mem_cons_of_mem _ hx)) h.2]
/-- an ask -/
theorem unit_ask {n : Nat} {v : Vv} {w : Bool} {left : Int} {C : CH} {Q : Kv} {E : Kx} (hg : CG (.ask v w)) (hq : Q (Cv.ask v w).cn.t.d C) : W (n + 13) i_unit_of [.str (mkS (tc (.ask v w))), .int left] C Q E := by
  have big := big5
  have tl := tc_len _ hg
  have so := tc_so _ hg
  have ts := tx_short hg.1
  rw [Cv.cn, csize] at tl
  have hz : (mkS (tc (.ask v w))).length ≤ sizeLine := mk_sl (by omega)
  obtain ⟨z, l, evq, gz, vl⟩ := app_form hg.1 hg.2
  have zs := nm_signs gz.1
  have zn := nm_ne gz.1
  obtain ⟨es, e2⟩ := app_tup hg.2
  have c1 : L2.cutS (mkS (tc (.ask v w))) none (some 1) = mkS ((tc (.ask v w)).take 1) := by
    rw [show (1 : Int) = ((1 : Nat) : Int) from rfl, cutS_hi, tl_mkS]
  have c4 : L2.cutS (mkS (tc (.ask v w))) none (some 4) = mkS ((tc (.ask v w)).take 4) := by
    rw [show (4 : Int) = ((4 : Nat) : Int) from rfl, cutS_hi, tl_mkS]
  have s4 : PyData.strOk (mkS ((tc (.ask v w)).take 4)) = true := so_mk fun x hx => so x (List.mem_of_mem_take hx)
  have h1 : decide (mkS ((tc (.ask v w)).take 1) = mkS [40]) = false := first_not fun r h => by
    rw [tc] at h
    split at h
    · rw [evq] at h
      cases hzl : z.cps.toList with
      | nil => exact zn hzl
      | cons c cs =>
        rw [hzl, List.cons_append] at h
        injection h with h _
        have := zs c (by rw [hzl]; simp)
        rw [h, sg40] at this
        cases this
    · cases h
  have en : Str.ofString "not " = mkS (lNot ++ [32]) := by decide +kernel
  have h4 : decide (mkS ((tc (.ask v w)).take 4) = Str.ofString "not ") = !w := by
    rw [en]
    cases w with
    | false => exact decide_eq_true (by rw [tc, if_neg (by decide)]; rfl)
    | true =>
      refine decide_eq_false fun h => ?_
      rw [mkS_inj, tc, if_pos rfl, evq] at h
      have := not_begun (w := lNot) (z := z.cps.toList) (s := l ++ [41]) (by decide +kernel) zs
      have hp : (lNot ++ [32]).isPrefixOf (z.cps.toList ++ 40 :: (l ++ [41])) = true := by
        rw [List.isPrefixOf_iff_prefix, List.prefix_iff_eq_take]
        exact h.symm
      rw [this] at hp
      cases hp
  have rest : ∀ (y4 : Option L3.D) (C1 : CH), Sub C C1 → rdSs (GG (n + 12)) (exN E) [b_unit_of.getD 2 .never, b_unit_of.getD 3 .never, b_unit_of.getD 4 .never] (endN Q) [some (.str (mkS (tc (.ask v w)))), some (.int left), none, none, y4] C1 := fun y4 C1 hs => by
    simp only [b_unit_of, List.getD_cons_zero, List.getD_cons_succ]
    rw [rdSs_cons]
    simp_arith []
    rw [c4]
    refine ⟨hz, eq_str (by rw [s4]; decide +kernel) h4 ?_⟩
    rw [Bool.not_not, rdSs_cons]
    simp_arith [GG_call]
    have fin : rdSs (GG (n + 12)) (exN E) [CS.ret ((CE.cmp OpC.is (CE.var 3) (CE.cst D.non)).ite (CE.cst D.non) (CE.tup [CE.cst (D.str (Str.ofString "ask")), CE.var 3, CE.var 2]))] { nx := fun x C' => ∃ C1, Sub C1 C' ∧ Q .non C1, rt := fun d C' => ∃ C1, Sub C1 C' ∧ Q d C1 } [some (.str (mkS (tc (.ask v w)))), some (.int left), some (.bl w), some v.t.d, y4] C1 := by
      rw [t_ask] at hq
      rw [rdSs_cons]
      rw [e2] at hq ⊢
      simp_arith []
      exact ⟨C, hs, hq⟩
    cases w with
    | true =>
      have et : tc (.ask v true) = tx v := by rw [tc, if_pos rfl]
      rw [if_pos rfl]
      rw [et] at fin ⊢
      exact term_of_ok (n := n + 2) hg.1 hg.2 fin
    | false =>
      have et : tc (.ask v false) = lNot ++ 32 :: tx v := by rw [tc, if_neg (by decide)]
      rw [if_neg (by decide)]
      refine ⟨hz, ?_⟩
      rw [show (4 : Int) = ((4 : Nat) : Int) from rfl, cutS_lo, tl_mkS]
      rw [show (tc (.ask v false)).drop 4 = tx v by rw [et]; rfl]
      exact term_of_ok (n := n + 2) hg.1 hg.2 fin
  simp only [b_unit_of, List.getD_cons_zero, List.getD_cons_succ, endN] at rest
  rw [W_unit_of]
  unfold b_unit_of
  rw [rdSs_cons]
  simp_arith []
  rw [c1, s_open]
  refine ⟨hz, ?_⟩
  refine eq_str (by rw [so_mk fun x hx => so x (List.mem_of_mem_take hx)]; decide +kernel) h1 ⟨false, rfl, ?_⟩
  rw [if_neg (by decide), rdSs_cons]
  simp_arith []
  rw [c4]
  refine ⟨hz, ?_⟩
  have ea : ∀ a : Bool, Str.ofString (if a = true then "any(" else "all(") = mkS (qwl a ++ [40]) := fun a => by cases a <;> decide +kernel
  cases hb : (decide (mkS ((tc (.ask v w)).take 4) = Str.ofString "any(") || decide (mkS ((tc (.ask v w)).take 4) = Str.ofString "all(")) with
  | false =>
    simp_arith [hb]
    exact rest none C Sub.refl
  | true =>
    obtain ⟨a, ha⟩ : ∃ a : Bool, (tc (.ask v w)).take 4 = qwl a ++ [40] := by
      rw [Bool.or_eq_true, decide_eq_true_eq, decide_eq_true_eq] at hb
      rcases hb with h | h
      · exact ⟨true, mkS_inj.mp (h.trans (ea true))⟩
      · exact ⟨false, mkS_inj.mp (h.trans (ea false))⟩
    have hw : w = true := by
      cases w with
      | true => rfl
      | false =>
        rw [tc, if_neg (by decide)] at ha
        cases a <;> (simp [lNot, qwl] at ha)
    subst hw
    have et : tc (.ask v true) = z.cps.toList ++ 40 :: (l ++ [41]) := by rw [tc, if_pos rfl, evq]
    have hl4 : (qwl a ++ [40]).length = 4 := by cases a <;> rfl
    have ez : qwl a = z.cps.toList := same_begun (s := l ++ [41]) (qwl_sgn a) zs (by
      rw [List.isPrefixOf_iff_prefix, List.prefix_iff_eq_take, ← et]
      rw [hl4]
      exact ha.symm)
    have c5 : L2.cutS (mkS (tc (.ask v true))) (some 4) (some (-1)) = mkS l := by
      rw [show (4 : Int) = ((4 : Nat) : Int) from rfl, cutS_in _ _ (by rw [mkS_len, et, List.length_append, List.length_cons]; omega), tl_mkS, et, ← ez]
      congr 1
      cases a <;> (show (l ++ [41]).dropLast = _; exact List.dropLast_concat)
    have e7 : Str.ofString ": " = mkS lcol := by decide +kernel
    simp_arith [hb]
    refine ⟨hz, 41, by rw [et, ← List.cons_append, ← List.append_assoc]; exact atI_end, ?_⟩
    rw [s_close]
    refine eq_str (by decide +kernel) (show decide ((⟨#[41]⟩ : Str) = mkS [41]) = true from decide_eq_true rfl) ⟨true, rfl, ?_⟩
    rw [if_pos rfl, rdSs_cons]
    simp_arith [GG_call]
    rw [c5, e7]
    have ll : (tc (.ask v true)).length = z.cps.toList.length + (l.length + 1 + 1) := by rw [et]; simp
    refine ⟨hz, ?_⟩
    have jl : TL.joinL lcol [l] = l := rfl
    refine (show W (n + 12) i_pieces_of [.str (mkS (TL.joinL lcol [l])), .str (mkS lcol)] C _ _ from split_ok (n := n + 11) (m := lcol) (ys := [l]) (by decide) (by decide) (by decide +kernel) (by simp) (fun y hy => by cases List.mem_singleton.mp hy; exact vl.col) (by rw [jl]; omega) (by
      rw [jl]; intro x hx
      exact so x (by rw [et]; simp [hx])) fun q C' hsub hq' => ?_)
    rw [rdSs_cons]
    simp_arith [hq', GG_call]
    exact rest _ C' hsub
theorem sp_mem {a : Bool} {c x : Cv} (h : CG c) (hx : x ∈ sp a c) : (x = c ∧ (∀ ps, c ≠ .con a ps)) ∨ (CG x ∧ ht x.cn + 1 ≤ ht c.cn ∧ csize x.cn ≤ csize c.cn) := by
  have one : ∀ d : Cv, (∀ b ps, d ≠ .con b ps) → ∀ ps, d ≠ .con a ps := fun d hd ps => hd a ps
  cases c with
  | con b ps =>
    rw [sp_con] at hx
    split at hx
    · obtain ⟨m1, m2⟩ := hts_of hx
      refine .inr ⟨h.2.mem x hx, ?_, ?_⟩
      · simp only [Cv.cn, ht]; omega
      · simp only [Cv.cn, csize]; omega
    · rename_i hb
      exact .inl ⟨List.mem_singleton.mp hx, fun qs e => by cases e; exact hb rfl⟩
  | ask v w => exact .inl ⟨List.mem_singleton.mp hx, fun qs e => by cases e⟩
  | qu b v c => exact .inl ⟨List.mem_singleton.mp hx, fun qs e => by cases e⟩
theorem sp_deep {c0 c x : Cv} (h : CG c0) (hc : c ∈ sp false c0) (hx : x ∈ sp true c) : CG c ∧ ht c.cn ≤ ht c0.cn ∧ csize c.cn ≤ csize c0.cn ∧ CG x ∧ ht x.cn ≤ ht c0.cn ∧ csize x.cn ≤ csize c0.cn ∧ (isCon x = true → ht x.cn + 1 ≤ ht c0.cn) := by
  rcases sp_mem h hc with ⟨rfl, n1⟩ | ⟨g1, h1, s1⟩
  · rcases sp_mem h hx with ⟨rfl, n2⟩ | ⟨g2, h2, s2⟩
    · refine ⟨h, Nat.le_refl _, Nat.le_refl _, h, Nat.le_refl _, Nat.le_refl _, fun e => ?_⟩
      cases x with
      | con b ps => cases b with
        | true => exact absurd rfl (n2 ps)
        | false => exact absurd rfl (n1 ps)
      | _ => cases e
    · exact ⟨h, Nat.le_refl _, Nat.le_refl _, g2, by omega, s2, fun _ => h2⟩
  · rcases sp_mem g1 hx with ⟨rfl, n2⟩ | ⟨g2, h2, s2⟩
    · exact ⟨g1, by omega, s1, g1, by omega, s1, fun _ => h1⟩
    · exact ⟨g1, by omega, s1, g2, by omega, by omega, fun _ => by omega⟩
theorem read_all : ∀ (k n : Nat) (c : Cv) (left : Int) (C : CH) (Q : Kv) (E : Kx), ht c.cn ≤ k → (ht c.cn : Int) ≤ left → CG c → csize c.cn ≤ 100 → ht c.cn ≤ 28 → Q c.cn.t.d C → W (n + 3 * k + 20) i_condition_of [.str (mkS (tc c)), .int left] C Q E := by
  intro k
  induction k with
  | zero => intro n c left C Q E hh; cases c <;> simp [Cv.cn, ht] at hh
  | succ k ih =>
    intro n c0 left C Q E hh hl hg hs h28 hq
    have hp := ht_pos c0.cn
    rw [show n + 3 * (k + 1) + 20 = (n + 3 * k + 21) + 2 by omega]
    refine cond_of_ok hg h28 hs (by omega) (fun c hc C Q E hq => ?_) hq
    rw [show n + 3 * k + 21 + 1 = (n + 3 * k + 20) + 2 by omega]
    have hcg : CG c ∧ ht c.cn ≤ ht c0.cn ∧ csize c.cn ≤ csize c0.cn := by
      rcases sp_mem hg hc with ⟨rfl, _⟩ | ⟨g, h, s⟩
      · exact ⟨hg, Nat.le_refl _, Nat.le_refl _⟩
      · exact ⟨g, by omega, s⟩
    refine conj_ok hcg.1 (by omega) (by omega) (fun x hx C Q E hq => ?_) hq
    obtain ⟨_, _, _, gx, hx1, sx, hx2⟩ := sp_deep hg hc hx
    cases x with
    | con b ps =>
      have h2 := hx2 rfl
      have e : inP true (.con b ps) = true := rfl
      rw [e]
      refine unit_con (n := n + 3 * k + 20) gx (by omega) ?_
      exact ih n _ (left - 1) C _ _ (by omega) (by omega) gx (by omega) (by omega) ⟨C, Sub.refl, hq⟩
    | ask v w =>
      have e : inP true (.ask v w) = false := rfl
      rw [e, show wrp false (tc (.ask v w)) = tc (.ask v w) from rfl]
      rw [show n + 3 * k + 20 + 1 = (n + 3 * k + 8) + 13 by omega]
      exact unit_ask gx hq
    | qu b v c1 =>
      have e : inP true (.qu b v c1) = false := rfl
      rw [e, show wrp false (tc (.qu b v c1)) = tc (.qu b v c1) from rfl]
      rw [show n + 3 * k + 20 + 1 = (n + 3 * k + 8) + 13 by omega]
      have hc1 : ht (Cv.qu b v c1).cn = 1 + ht c1.cn := by rw [Cv.cn, ht]
      have sc1 : csize (Cv.qu b v c1).cn = 1 + csize c1.cn := by rw [Cv.cn, csize]
      refine unit_qu gx (by omega) (fun C Q E hq => ?_) hq
      rw [show n + 3 * k + 8 + 12 = n + 3 * k + 20 by omega]
      exact ih n c1 (left - 1) C Q E (by omega) (by omega) gx.2 (by omega) (by omega) hq
/-- a condition somewhere -/
structure Some1 (c : Cv) : Prop where
  g : CG c
  lv : isCond c.cn.t 1 = true ∨ isCond c.cn.t 2 = true ∨ isCond c.cn.t 3 = true
  hh : ht c.cn ≤ 28
  hs : csize c.cn ≤ 100
  sz : size c.cn.t ≤ 1000000
theorem stands_ok {n : Nat} {c : Cv} {C : CH} {Q : Kv} {E : Kx} (h : Some1 c) (hq : Q (.bl true) C) : W (n + 12) i_stands_somewhere [c.cn.t.d] C Q E := by
  have big := big5
  have ok := cg_ok c h.g
  have hh := h.hh
  rw [W_stands_somewhere]
  unfold b_stands_somewhere
  rw [rdSs_cons]
  simp_arith [cLc, iSeq, lcL, wipe3, cYes, GG_call]
  refine isCond_ok (n := n) ok.1 (by omega) h.sz ?_
  refine isCond_ok (n := n) ok.1 (by omega) h.sz ?_
  refine ⟨by simp; omega, isCond_ok (n := n) ok.1 (by omega) h.sz ⟨by simp; omega, fun p hp => ?_⟩⟩
  refine ⟨p, [isCond c.cn.t 1, isCond c.cn.t 2, isCond c.cn.t 3], rfl, cup_same, C, sub_new hp, ?_⟩
  have e : [isCond c.cn.t 1, isCond c.cn.t 2, isCond c.cn.t 3].any id = true := by
    rcases h.lv with h | h | h <;> simp [h]
  dsimp only
  rw [e]
  exact hq
theorem ctext_ok {n : Nat} {c : Cv} {C : CH} {Q : Kv} {E : Kx} (h : Some1 c) (hq : Q (.str (mkS (tc c))) C) : W (n + 70) i_condition_text [c.cn.t.d] C Q E := by
  have hh := h.hh
  rw [W_condition_text]
  unfold b_condition_text
  rw [rdSs_cons]
  simp_arith [GG_call]
  refine stands_ok (n := n + 57) h ?_
  simp_arith []
  rw [rdSs_cons]
  simp_arith [GG_call]
  rw [show n + 69 = (n + 3) + 2 * 28 + 10 by omega]
  exact words_ok 28 (n + 3) c C _ _ hh h.hs h.g ⟨C, Sub.refl, hq⟩
theorem need_read_ok {n : Nat} {C : CH} {Q : Kv} {E : Kx} (hq : Q .non C) : W (n + 1) i_need_read [.bl true] C Q E := by
  rw [W_need_read]
  unfold b_need_read
  rw [rdSs_cons]
  simp_arith []
  exact ⟨C, Sub.refl, hq⟩
theorem rcond_ok {n : Nat} {c : Cv} {C : CH} {Q : Kv} {E : Kx} (h : Some1 c) (hq : Q c.cn.t.d C) : W (n + 120) i_read_condition [.str (mkS (tc c))] C Q E := by
  have hh := h.hh
  obtain ⟨ds, e⟩ := tup_of c
  rw [W_read_condition]
  unfold b_read_condition
  rw [rdSs_cons]
  simp_arith [GG_kit, GG_call]
  rw [show n + 119 = (n + 15) + 3 * 28 + 20 by omega]
  refine read_all 28 (n + 15) c 101 C _ _ hh (by omega) h.g h.hs hh ?_
  rw [rdSs_cons]
  simp_arith [GG_call]
  refine stands_ok (n := n + 107) h ?_
  refine need_read_ok (n := n + 118) ?_
  rw [rdSs_cons]
  simp_arith [GG_call]
  rw [show n + 119 = (n + 53) + 2 * 28 + 10 by omega]
  refine words_ok 28 (n + 53) c C _ _ hh h.hs h.g ?_
  refine eq_str (by rw [tc_mk h.g]; rfl) (decide_eq_true rfl) ?_
  refine need_read_ok (n := n + 118) ?_
  rw [rdSs_cons]
  simp_arith []
  exact ⟨C, Sub.refl, hq⟩
/-- what a lambda's call returns stands in a list -/
theorem told8 {n : Nat} {ce : Kxs → CTE} {ex : Kxs} {σ : Env3} {C : CH} {Q : Kv} {d : L3.D} (h : ∀ (EX : Kxs) (Q1 : Kv), Q1 d C → ce EX σ C Q1) (hq : ∀ p, C p = none → Q (.ref p) (cup C p (.lst [d]))) :
    cLam ((GG (n + 3)).lam i__law_told) ce ex σ C Q := by
  intro fa hfa
  rw [L__law_told]
  unfold b__law_told
  rw [rdSs_cons]
  simp_arith []
  rw [rdSs_cons]
  simp_arith [sLF, cAct, GA_act, lamAct, oLst]
  refine h _ _ ?_
  intro p hp
  rw [rdSs_cons]
  simp_arith []
  rw [rdSs_cons]
  simp_arith []
  exact ⟨_, Sub.refl, hq p hp⟩
theorem shows_bl (b : Bool) : Shows (.bl b) 0 := by
  cases b <;> exact ⟨by decide +kernel, by decide +kernel, by decide +kernel, by decide +kernel⟩
theorem shows_ask : Shows (.str "ask") 3 := ⟨by decide +kernel, by decide +kernel, by decide +kernel, by decide +kernel⟩
theorem shows_cw (a : Bool) : Shows (.str (cw a)) 3 := by
  cases a <;> exact ⟨by decide +kernel, by decide +kernel, by decide +kernel, by decide +kernel⟩
theorem shows_qw (a : Bool) : Shows (.str (qw a)) 3 := by
  cases a <;> exact ⟨by decide +kernel, by decide +kernel, by decide +kernel, by decide +kernel⟩
theorem shows_v4 {v : Vv} (g : Good 4 v) : Shows v.t 380 := by
  have := vv_size 4 v g.2.2
  exact (shows_vv v g.1 g.2.1).le (by omega)
mutual
theorem shows_cv : ∀ (c : Cv), CG c → Shows c.cn.t (400 * csize c.cn - 8)
  | .ask v w, f => by
    have := (((ShowsL.nil.cons (shows_bl w)).cons (shows_v4 f.1)).cons shows_ask).tup
    simp only [Cv.cn, Cn.t, csize]
    exact this.le (by omega)
  | .con a ps, f => by
    have := ((ShowsL.nil.cons (shows_cvs ps f.2).tup).cons (shows_cw a)).tup
    simp only [Cv.cn, Cn.t, csize]
    exact this.le (by omega)
  | .qu a v c, f => by
    have hp := csize_pos c.cn
    have := (((ShowsL.nil.cons (shows_cv c f.2)).cons (shows_v4 f.1.1)).cons (shows_qw a)).tup
    simp only [Cv.cn, Cn.t, csize]
    exact this.le (by omega)
theorem shows_cvs : ∀ (cs : List Cv), CGs cs → ShowsL (Cn.ts (Cv.cns cs)) (400 * csizes (Cv.cns cs))
  | [], f => ShowsL.nil
  | c :: cs, f => by
    have hp := csize_pos c.cn
    have := (shows_cvs cs f.2).cons (shows_cv c f.1)
    simp only [Cv.cns, Cn.ts, csizes]
    exact ⟨this.can, this.short, Nat.le_trans this.wt (by omega), this.so⟩
end
theorem shows_mk {l : List Nat} {w : Nat} (h : ∀ c ∈ l, c < 1114112) (hl : l.length ≤ w) : Shows (.str (mkS l)) w := by
  refine ⟨rfl, ?_, ?_, so_repr (so_mk h)⟩
  · show ((mkS l).cps.toList.all fun c => decide (c < 16 ^ 8)) = true
    rw [tl_mkS, List.all_eq_true]
    intro c hc
    have := h c hc
    exact decide_eq_true (by omega)
  · show (mkS l).cps.size ≤ w
    rw [show (mkS l).cps.size = l.length from mkS_len l]
    exact hl
/-- a list of one thing -/
theorem repr_one {t : T} {w : Nat} {C : CH} {p : Addr} {Q : Kv} (s : Shows t w) (hw : w ≤ 1000000) (ok : okT t = true) (hd : t.p.depth ≤ 300) (hp : C p = some (.lst [t.d])) (hq : PyData.strOk (PyData.list [t.p]).shown = true → Q (.str (PyData.list [t.p]).shown) C) : oRepr [.ref p] C Q :=
  repr_L (ts := [t]) (ShowsL.nil.cons s) (by omega) (fun x hx => by cases List.mem_singleton.mp hx; exact ⟨ok, hd⟩) hp hq
theorem law_right8 {n : Nat} {c : Cv} {C : CH} {Q : Kv} {E : Kx} (h : Some1 c) (hq : Q (.bl true) C) : W (n + 130) i__law_right [c.cn.t.d] C Q E := by
  have hh := h.hh
  have hs := h.hs
  have big := big5
  have tl := tc_len c h.g
  have ok := cg_ok c h.g
  have sc := shows_cv c h.g
  have st := shows_mk (w := 50000) (tc_so c h.g) (by omega)
  have okt : okT (.str (mkS (tc c))) = true := by
    simp only [okT, Bool.and_eq_true, decide_eq_true_eq]
    exact ⟨mk_sl (by omega), tc_mk h.g⟩
  have so1 : PyData.strOk c.cn.t.p.shown = true := sc.so
  rw [W__law_right]
  unfold b__law_right
  rw [rdSs_cons]
  simp_arith [GG_call]
  rw [show n + 129 = (n + 91) + 28 + 10 by omega]
  refine lct_ok 28 (n + 91) c C _ _ hh hs h.g ?_
  refine repr_T sc (by omega) (by omega) ?_
  rw [rdSs_cons]
  simp_arith [oLst]
  rw [show n + 91 + 28 + 10 = n + 126 + 3 by omega]
  refine told8 (n := n + 126) (d := .str (mkS (tc c))) (fun EX Q1 hq1 => ?_) fun p hp => ?_
  · simp_arith [GG_dn, GA_call]
    exact ctext_ok (n := n + 57) h hq1
  refine repr_one (t := .str (mkS (tc c))) st (by decide) okt (by simp [T.p, PyData.depth]) cup_same fun so2 p2 hp2 => ?_
  refine repr_one (t := .str (mkS (tc c))) st (by decide) okt (by simp [T.p, PyData.depth]) cup_same fun _ => ?_
  refine eq_str (by rw [so2]; rfl) (decide_eq_true rfl) ⟨false, rfl, ?_⟩
  rw [if_neg (by decide)]
  refine repr_T sc (by omega) (by omega) ?_
  refine eq_str (by rw [so1]; rfl) (decide_eq_true rfl) ⟨false, rfl, ?_⟩
  rw [if_neg (by decide), rdSs_cons]
  simp_arith [oLst]
  refine told8 (n := n + 126) (d := c.cn.t.d) (fun EX Q1 hq1 => ?_) fun p3 hp3 => ?_
  · simp_arith [GG_dn, GA_call]
    exact rcond_ok (n := n + 7) h hq1
  refine repr_one sc (by omega) ok.1 (by omega) cup_same fun so3 p4 hp4 => ?_
  refine repr_one sc (by omega) ok.1 (by omega) cup_same fun _ => ?_
  refine eq_str (by rw [so3]; rfl) (decide_eq_true rfl) ?_
  exact ⟨C, (((sub_new hp).trans (sub_new hp2)).trans (sub_new hp3)).trans (sub_new hp4), hq⟩
structure Called (vs : List Vv) (lv : Int) (k : Nat) : Prop where
  good : ∀ v ∈ vs, v.good ∧ v.h ≤ 4 ∧ v.top ≤ lv
  len : vs.length ≤ k
theorem Called.terms {vs : List Vv} {lv : Int} {k : Nat} (h : Called vs lv k) (l3 : lv ≤ 3) (hk : k ≤ 100) : Terms vs := ⟨fun v hv => by obtain ⟨a, b, c⟩ := h.good v hv; exact ⟨a, b, by omega⟩, by have := h.len; omega⟩
noncomputable def turnB : List CS := match b_law with
  | _ :: .forS _ _ _ b :: _ => b
  | _ => []
noncomputable def callB : List CS := match turnB with
  | _ :: .forS _ _ _ b :: _ => b
  | _ => []
theorem call_turn {n N : Nat} {ex : Kxs} {Dd : EndsC} {C0 C : CH} {s p pn : Addr} {lv : Int} {zs : List Str} {vs : List Vv} {y0 y2 y3 : Option L3.D} (hp : C0 p = none) (hn : C0 pn = some (.lst (zs.map D.str))) (hz : Names zs) (l1 : 1 ≤ lv) (l3 : lv ≤ 3) (hc : Called vs lv 9)
    (h : St (cup C0 p (.lst (vds vs))) C s (N + 8)) (hK : ∀ (v : Vv) C', v.good → v.h ≤ 4 → v.top ≤ lv → St (cup C0 p (.lst (vds (vs ++ [v])))) C' s N → Dd.nx [y0, some (.ref s), y2, y3, some (.ref pn), some (.int lv), some (.ref p)] C') :
    rdSs (GG (n + 6)) ex callB Dd [y0, some (.ref s), y2, y3, some (.ref pn), some (.int lv), some (.ref p)] C := by
  have hpC : C p = some (.lst (vds vs)) := h.subC _ _ cup_same
  have hlen : (vds vs).length = vs.length := by rw [vds_map, List.length_map]
  simp only [callB, turnB, b_law]
  rw [rdSs_cons]
  simp_arith [GG_call]
  refine ⟨isLst_of hpC, ?_⟩
  refine term_ok (n := n) (N := N) (kn := lv) h (cup_old hp hn) hz cup_same (hc.terms l3 (by decide)) (fun v hv => (hc.good v hv).2.2) (fun v hv => (hc.good v hv).2.2) l1 l3 fun v C' fv h' => ?_
  have hpC' : C' p = some (.lst (vds vs)) := h'.subC _ _ cup_same
  have h100 : (1000 : Nat) ≤ sizeLine := by decide
  refine ⟨p, _, _, rfl, rfl, hpC', by have := hc.len; omega, ?_⟩
  have e : vds vs ++ [v.t.d] = vds (vs ++ [v]) := by rw [vds_map, vds_map, List.map_append]; rfl
  rw [e]
  exact hK v _ fv.good fv.h fv.top (St.write h' hp)
theorem call_loop {n N : Nat} {ex : Kxs} {Dd : EndsC} {C0 : CH} {s p pn : Addr} {lv : Int} {zs : List Str} {y0 y2 : Option L3.D} (hp : C0 p = none) (hn : C0 pn = some (.lst (zs.map D.str))) (hz : Names zs) (l1 : 1 ≤ lv) (l3 : lv ≤ 3)
    (hD : ∀ vs y3 C', Called vs lv 9 → St (cup C0 p (.lst (vds vs))) C' s N → Dd.nx [y0, some (.ref s), y2, y3, some (.ref pn), some (.int lv), some (.ref p)] C') :
    ∀ (items : List L3.D) (vs : List Vv) (y3 : Option L3.D) (C : CH), vs.length + items.length ≤ 9 → Called vs lv 9 → St (cup C0 p (.lst (vds vs))) C s (N + 8 * items.length) →
      forL (hT (.nm 3)) (rdSs (GG (n + 6)) ex callB) (fun _ => True) Dd items [y0, some (.ref s), y2, y3, some (.ref pn), some (.int lv), some (.ref p)] C
  | [], vs, y3, C, hl, hc, h => ⟨trivial, hD vs y3 C hc h⟩
  | d :: items, vs, y3, C, hl, hc, h => by
    simp only [List.length_cons] at hl h
    refine ⟨trivial, _, rfl, ?_⟩
    refine call_turn (n := n) (N := N + 8 * items.length) hp hn hz l1 l3 hc (by rw [Nat.mul_succ] at h; exact h) fun v C' g1 g2 g3 h' => ?_
    refine call_loop hp hn hz l1 l3 hD items (vs ++ [v]) _ C' (by rw [List.length_append, List.length_singleton]; omega) ⟨fun u hu => ?_, by rw [List.length_append, List.length_singleton]; omega⟩ h'
    rcases List.mem_append.mp hu with hu | hu
    · exact hc.good u hu
    · rw [List.mem_singleton.mp hu]; exact ⟨g1, g2, g3⟩
theorem some_of {c : Cn} {lv : Int} (l1 : 1 ≤ lv) (l3 : lv ≤ 3) (hd : Drawn c lv lv 12) : ∃ cv : Cv, c = cv.cn ∧ Some1 cv := by
  obtain ⟨cv, e, g⟩ := cv_of c lv lv hd.fit
  have a := hd.asks
  have z := hd.size
  have t := hd.ht
  have q := isCond_fit hd.fit l3 (by omega) (by omega)
  have k := (fit_ok c lv lv hd.fit).2.2
  subst e
  refine ⟨cv, rfl, g, ?_, by omega, by omega, by omega⟩
  rcases (by omega : lv = 1 ∨ lv = 2 ∨ lv = 3) with e | e | e
  · subst e; exact .inl q
  · subst e; exact .inr (.inl q)
  · subst e; exact .inr (.inr q)
theorem pick_of {xs : List Int} {m : Nat} (hx : (xs.all fun i => decide (1 ≤ i ∧ i ≤ m)) = true) {d : L3.D} (h : d ∈ xs.map D.int) : ∃ r : Nat, d = .int (r : Nat) ∧ 1 ≤ r ∧ r ≤ m := by
  obtain ⟨i, hi, rfl⟩ := List.mem_map.mp h
  have := List.all_eq_true.mp hx i hi
  simp only [decide_eq_true_eq] at this
  exact ⟨i.toNat, by rw [Int.toNat_of_nonneg (by omega)], by omega, by omega⟩
theorem turn_ok {N : Nat} {ex : Kxs} {Dd : EndsC} {C0 C : CH} {s : Addr} {x0 x2 x3 x4 x5 x6 : Option L3.D} (h : St C0 C s (N + 600))
    (hK : ∀ x3 x4 x5 x6 C', St C0 C' s N → Dd.nx [x0, some (.ref s), x2, x3, x4, x5, x6] C') :
    rdSs (GG 199) ex turnB Dd [x0, some (.ref s), x2, x3, x4, x5, x6] C := by
  simp only [turnB, b_law]
  rw [rdSs_cons]
  simp_arith [cLc, iRg1, GG_call, oLst]
  refine ⟨by decide, by decide, ?_⟩
  have hjt : (rngD 0 (3 : Int).toNat).length = 3 := by simp [rngD]
  refine lcL_run (fun k C => St C0 C s (N + 560 + 12 * k)) (fun d => ∃ z, d = .str z ∧ goodNm z) (fun _ _ _ => trivial) _ [] C ?_ (fun _ h => nomatch h) ?_ ?_ ?_
  · rw [hjt]; exact h.le (by omega)
  · rw [hjt]; simp only [List.length_nil]; decide
  · intro acc C2 h2 hla hR pn hpn
    obtain ⟨zs, rfl, hg⟩ := names_of acc hR
    rw [hjt] at hla
    simp only [List.length_nil, List.length_map] at hla
    have h3 := (h2.le (M := N + 559 + 1) (by omega)).alloc (o := .lst (zs.map D.str)) hpn
    refine draw_ok (n := 198) (N := N + 559) h3 (by decide) (by decide) fun k C3 k0 k3 h4 => ?_
    have l1 : 1 ≤ 1 + k := by omega
    have l3 : 1 + k ≤ 3 := by omega
    simp_arith []
    generalize hlv : 1 + k = lv at l1 l3 ⊢
    intro p hp
    have h5 := h4.alloc (o := .lst (vds [])) hp
    have hp0 := h4.no hp
    refine ⟨_, _, _, ⟨rfl, rfl, rfl⟩, ?_⟩
    rw [rdSs_cons]
    simp_arith [sFor, iRg1, GG_call]
    refine draw_ok (n := 198) (N := N + 558) h5 (by decide) (by decide) fun j C4 j0 j3 h6 => ?_
    refine ⟨_, rfl, by omega, by omega, ?_⟩
    have lj : (rngD 0 j.toNat).length = j.toNat := by simp [rngD]
    refine (show forL (hT (.nm 3)) (rdSs (GG (193 + 6)) ex callB) (fun _ => True) _ (rngD 0 j.toNat) [x0, some (.ref s), x2, x3, some (.ref pn), some (.int lv), some (.ref p)] C4 from
      call_loop (n := 193) (N := N + 500) (C0 := cup C0 pn (.lst (zs.map D.str))) (zs := zs) hp0 cup_same ⟨hg, by omega, by omega⟩ l1 l3 (fun vs y3 C5 hc h7 => ?_) _ [] x3 C4 (by rw [List.length_nil, lj]; omega) ⟨fun v hv => absurd hv (by simp), by simp⟩ (h6.le (by rw [lj]; omega)))
    dsimp only
    rw [rdSs_cons]
    simp_arith [GG_call, oLst]
    intro q hq
    have h8 := (h7.le (M := N + 499 + 1) (by omega)).alloc (o := .lst ([1, 2, 4, 8, 12].map D.int)) hq
    refine pick_ok (n := 197) h8 cup_same (by decide) (by decide) fun d C6 hd h9 => ?_
    obtain ⟨r, rfl, r1, r12⟩ := pick_of (m := 12) (by decide) hd
    refine cond_ok r 192 (N + 100) _ C6 s pn p lv lv zs vs _ _ r1 (by omega) (by omega) (h9.le (by omega)) (cup_old (h7.no hq) (cup_old hp0 cup_same)) ⟨hg, by omega, by omega⟩ (cup_old (h7.no hq) cup_same) (hc.terms l3 (by decide)) (fun v hv => (hc.good v hv).2.2) (fun v hv => (hc.good v hv).2.2) l1 l3 fun c C7 hdr h10 => ?_
    obtain ⟨cv, rfl, sm⟩ := some_of l1 l3 (⟨hdr.fit, Nat.le_trans hdr.asks r12, by have := hdr.size; omega, Nat.le_trans hdr.ht r12⟩ : Drawn c lv lv 12)
    refine law_right8 (n := 69) sm ⟨true, rfl, ?_⟩
    rw [if_neg (by decide)]
    have su : Sub C0 (cup (cup (cup C0 pn (.lst (zs.map D.str))) p (.lst (vds vs))) q (.lst ([1, 2, 4, 8, 12].map D.int))) := ((sub_new (h2.no hpn)).trans (sub_new hp0)).trans (sub_new (h7.no hq))
    exact hK _ _ _ _ C7 ((h10.drop su).le (by omega))
  · intro d hd k C3 h3
    obtain ⟨i, hi, rfl⟩ := List.mem_map.mp hd
    refine ⟨_, rfl, fun Q' hQ => ?_⟩
    simp_arith [wipe3, GG_call]
    exact name_ok (n := 196) (N := N + 560 + 12 * k) h3 fun z C' hz h' => hQ _ _ ⟨z, rfl, hz⟩ h'
theorem turn_loop {N : Nat} {ex : Kxs} {Dd : EndsC} {C0 : CH} {s : Addr} {x0 : Option L3.D} (hK : ∀ σ C', Dd.nx σ C') :
    ∀ (items : List L3.D) (x2 x3 x4 x5 x6 : Option L3.D) (C : CH), St C0 C s (N + 600 * items.length) → forL (hT (.nm 2)) (rdSs (GG 199) ex turnB) (fun _ => True) Dd items [x0, some (.ref s), x2, x3, x4, x5, x6] C
  | [], x2, x3, x4, x5, x6, C, h => ⟨trivial, hK _ C⟩
  | d :: items, x2, x3, x4, x5, x6, C, h => by
    refine ⟨trivial, _, rfl, ?_⟩
    simp only [List.length_cons] at h
    exact turn_ok (N := N + 600 * items.length) (h.le (by omega)) fun y3 y4 y5 y6 C' h' => turn_loop hK items _ y3 y4 y5 y6 C' h'
theorem law_ok : LawTrue prog kit 200 i_law := by
  intro ns hl hb
  show W (199 + 1) i_law _ _ _ _
  rw [W_law]
  unfold b_law
  rw [rdSs_cons]
  simp_arith [GG_call]
  refine begin_ok (n := 198) hl fun s C1 h1 => ?_
  generalize hC0 : (fun _ => none : CH) = C0 at h1
  rw [rdSs_cons]
  simp_arith [sFor, iRg1]
  refine ⟨by decide, by decide, ?_⟩
  have h8 : (rngD 0 (8 : Int).toNat).length = 8 := by simp [rngD]
  refine turn_loop (N := 0) (C0 := C0) (fun σ C' => ?_) _ none none none none none _ (by rw [h8]; exact h1.le (by decide))
  dsimp only
  rw [rdSs_cons]
  simp_arith []
  exact ⟨C', Sub.refl⟩
end My
namespace My
open PySem L3
open L2 (inClass defArgs defBody defScope)
set_option maxHeartbeats 0 in
theorem all_mk {l : PySem.W.OpenLaw} {w : World} {K : PySem.W.Frag} {h : Heap} {mg : Str → Option Value} {fa C0 C1 C2 C3 C4 C5 C6 f0 f1 f2 f3 f4 f5 f6 f7 f8 f9 f10 f11 f12 f13 f14 f15 f16 f17 f18 f19 f20 f21 f22 f23 f24 f25 f26 f27 f28 f29 f30 f31 f32 f33 f34 f35 f36 f37 f38 f39 f40 f41 f42 f43 : Addr} (X : K.In h) (G : h.Ns mainGlobals mg) (hfa : mg "law" = some (.ref fa))
    {od0 an0 od1 an1 od2 an2 od3 an3 od4 an4 od5 an5 od6 an6 od7 an7 od8 an8 od9 an9 od10 an10 od11 an11 od12 an12 od13 an13 od14 an14 od15 an15 od16 an16 od17 an17 od18 an18 od19 an19 od20 an20 od21 an21 od22 an22 od23 an23 od24 an24 od25 an25 od26 an26 od27 an27 od28 an28 od29 an29 od30 an30 od31 an31 od32 an32 od33 an33 od34 an34 od35 an35 od36 an36 od37 an37 od38 an38 od39 an39 od40 an40 od41 an41 od42 an42 od43 an43 : Option Addr} {sl0 sl1 sl2 sl3 sl4 sl5 sl6 sl7 sl8 sl9 sl10 sl11 sl12 sl13 sl14 sl15 sl16 sl17 sl18 sl19 sl20 sl21 sl22 sl23 sl24 sl25 sl26 sl27 sl28 sl29 sl30 sl31 sl32 sl33 sl34 sl35 sl36 sl37 sl38 sl39 sl40 sl41 sl42 sl43 : Array (Option Value)} {oc0 kV0 dc0 pm0 cd0 ct0 oc1 kV1 dc1 pm1 cd1 ct1 oc2 kV2 dc2 pm2 cd2 ct2 oc3 kV3 dc3 pm3 cd3 ct3 oc4 kV4 dc4 pm4 cd4 ct4 oc5 kV5 dc5 pm5 cd5 ct5 oc6 kV6 dc6 pm6 cd6 ct6 oc7 kV7 dc7 pm7 cd7 ct7 oc8 kV8 dc8 pm8 cd8 ct8 oc9 kV9 dc9 pm9 cd9 ct9 oc10 kV10 dc10 pm10 cd10 ct10 oc11 kV11 dc11 pm11 cd11 ct11 oc12 kV12 dc12 pm12 cd12 ct12 oc13 kV13 dc13 pm13 cd13 ct13 oc14 kV14 dc14 pm14 cd14 ct14 oc15 kV15 dc15 pm15 cd15 ct15 oc16 kV16 dc16 pm16 cd16 ct16 oc17 kV17 dc17 pm17 cd17 ct17 oc18 kV18 dc18 pm18 cd18 ct18 oc19 kV19 dc19 pm19 cd19 ct19 oc20 kV20 dc20 pm20 cd20 ct20 oc21 kV21 dc21 pm21 cd21 ct21 oc22 kV22 dc22 pm22 cd22 ct22 oc23 kV23 dc23 pm23 cd23 ct23 oc24 kV24 dc24 pm24 cd24 ct24 oc25 kV25 dc25 pm25 cd25 ct25 oc26 kV26 dc26 pm26 cd26 ct26 oc27 kV27 dc27 pm27 cd27 ct27 oc28 kV28 dc28 pm28 cd28 ct28 oc29 kV29 dc29 pm29 cd29 ct29 oc30 kV30 dc30 pm30 cd30 ct30 oc31 kV31 dc31 pm31 cd31 ct31 oc32 kV32 dc32 pm32 cd32 ct32 oc33 kV33 dc33 pm33 cd33 ct33 oc34 kV34 dc34 pm34 cd34 ct34 oc35 kV35 dc35 pm35 cd35 ct35 oc36 kV36 dc36 pm36 cd36 ct36 oc37 kV37 dc37 pm37 cd37 ct37 oc38 kV38 dc38 pm38 cd38 ct38 oc39 kV39 dc39 pm39 cd39 ct39 oc40 kV40 dc40 pm40 cd40 ct40 oc41 kV41 dc41 pm41 cd41 ct41 oc42 kV42 dc42 pm42 ct42 oc43 kV43 dc43 pm43 cd43 ct43 : Value} {tk0 tk1 tk2 tk4 tk5 tk6 tk7 tk8 tk9 : Tok} {T7 : Addr} {tc7 : Value} {td7 : Option Addr} {tn7 : Nat} {ts7 : Array (Option Value)} {tkd7_0 : Tok} {cc42 : Addr} {PP42 : Addr} {mo42 : Option Addr} {mv42 : Array Value} {ms42 : Array (Option Value)} {ga3 : Addr} {go3 : Option Addr} {gn3 : Nat} {gs3 : Array (Option Value)} {gk3_0 : Tok} {gk3_1 : Tok} {gk3_2 : Tok} {gp0 : Addr} {ge0 : Array DictEntry} {gn0 : Nat} {gad0_0 : Addr} {god0_0 : Option Addr} {gnd0_0 : Nat} {gsd0_0 : Array (Option Value)} {gkd0_0_0 : Tok} {gkd0_0_1 : Tok} {gad0_1 : Addr} {god0_1 : Option Addr} {gnd0_1 : Nat} {gsd0_1 : Array (Option Value)} {gkd0_1_0 : Tok} {gp1 : Addr} {ge1 : Array DictEntry} {gn1 : Nat} {gkd1_0 : Tok} {gkd1_1 : Tok}
    (e0 : PySem.W.nsIn K mainGlobals "LoopError" = some (some (.ref C0)))
    (e1 : PySem.W.nsIn K mainGlobals "NoValue" = some (some (.ref C1)))
    (e2 : PySem.W.nsIn K mainGlobals "NoProgram" = some (some (.ref C2)))
    (e3 : PySem.W.nsIn K mainGlobals "NoCondition" = some (some (.ref C3)))
    (e4 : PySem.W.nsIn K mainGlobals "NoForm" = some (some (.ref C4)))
    (e5 : PySem.W.nsIn K mainGlobals "NoFusing" = some (some (.ref C5)))
    (e6 : PySem.W.nsIn K mainGlobals "NoText" = some (some (.ref C6)))
    (a0 : PySem.W.nsIn K mainGlobals "is_number" = some (some (.ref f0)))
    (l0 : K.lookup f0 = some ⟨oc0, od0, .func (PySem.W.fnOf "is_number" "is_number" (defArgs s0) (defBody s0) (defScope s0) .none kV0 dc0 pm0 an0 cd0 ct0), sl0⟩)
    (c0 : PySem.W.codeIn K cd0 "is_number" = true)
    (k0 : PySem.W.keepIn K (.ref f0) = true)
    (a1 : PySem.W.nsIn K mainGlobals "is_name" = some (some (.ref f1)))
    (l1 : K.lookup f1 = some ⟨oc1, od1, .func (PySem.W.fnOf "is_name" "is_name" (defArgs s1) (defBody s1) (defScope s1) .none kV1 dc1 pm1 an1 cd1 ct1), sl1⟩)
    (c1 : PySem.W.codeIn K cd1 "is_name" = true)
    (k1 : PySem.W.keepIn K (.ref f1) = true)
    (a2 : PySem.W.nsIn K mainGlobals "measured" = some (some (.ref f2)))
    (l2 : K.lookup f2 = some ⟨oc2, od2, .func (PySem.W.fnOf "measured" "measured" (defArgs s2) (defBody s2) (defScope s2) .none kV2 dc2 pm2 an2 cd2 ct2), sl2⟩)
    (c2 : PySem.W.codeIn K cd2 "measured" = true)
    (k2 : PySem.W.keepIn K (.ref f2) = true)
    (a3 : PySem.W.nsIn K mainGlobals "is_value" = some (some (.ref f3)))
    (l3 : K.lookup f3 = some ⟨oc3, od3, .func (PySem.W.fnOf "is_value" "is_value" (defArgs s3) (defBody s3) (defScope s3) .none kV3 dc3 pm3 an3 cd3 ct3), sl3⟩)
    (c3 : PySem.W.codeIn K cd3 "is_value" = true)
    (k3 : PySem.W.keepIn K (.ref f3) = true)
    (a4 : PySem.W.nsIn K mainGlobals "is_term" = some (some (.ref f4)))
    (l4 : K.lookup f4 = some ⟨oc4, od4, .func (PySem.W.fnOf "is_term" "is_term" (defArgs s4) (defBody s4) (defScope s4) .none kV4 dc4 pm4 an4 cd4 ct4), sl4⟩)
    (c4 : PySem.W.codeIn K cd4 "is_term" = true)
    (k4 : PySem.W.keepIn K (.ref f4) = true)
    (a5 : PySem.W.nsIn K mainGlobals "sizes_of" = some (some (.ref f5)))
    (l5 : K.lookup f5 = some ⟨oc5, od5, .func (PySem.W.fnOf "sizes_of" "sizes_of" (defArgs s5) (defBody s5) (defScope s5) .none kV5 dc5 pm5 an5 cd5 ct5), sl5⟩)
    (c5 : PySem.W.codeIn K cd5 "sizes_of" = true)
    (k5 : PySem.W.keepIn K (.ref f5) = true)
    (a6 : PySem.W.nsIn K mainGlobals "highest" = some (some (.ref f6)))
    (l6 : K.lookup f6 = some ⟨oc6, od6, .func (PySem.W.fnOf "highest" "highest" (defArgs s6) (defBody s6) (defScope s6) .none kV6 dc6 pm6 an6 cd6 ct6), sl6⟩)
    (c6 : PySem.W.codeIn K cd6 "highest" = true)
    (k6 : PySem.W.keepIn K (.ref f6) = true)
    (a7 : PySem.W.nsIn K mainGlobals "need_value" = some (some (.ref f7)))
    (l7 : K.lookup f7 = some ⟨oc7, od7, .func (PySem.W.fnOf "need_value" "need_value" (defArgs s7) (defBody s7) (defScope s7) (.ref T7) kV7 dc7 pm7 an7 cd7 ct7), sl7⟩)
    (t7 : K.lookup T7 = some ⟨tc7, td7, .seq #[(.int 3 tkd7_0)] tn7, ts7⟩)
    (c7 : PySem.W.codeIn K cd7 "need_value" = true)
    (k7 : PySem.W.keepIn K (.ref f7) = true)
    (a8 : PySem.W.nsIn K mainGlobals "text_of" = some (some (.ref f8)))
    (l8 : K.lookup f8 = some ⟨oc8, od8, .func (PySem.W.fnOf "text_of" "text_of" (defArgs s8) (defBody s8) (defScope s8) .none kV8 dc8 pm8 an8 cd8 ct8), sl8⟩)
    (c8 : PySem.W.codeIn K cd8 "text_of" = true)
    (k8 : PySem.W.keepIn K (.ref f8) = true)
    (a9 : PySem.W.nsIn K mainGlobals "value_text" = some (some (.ref f9)))
    (l9 : K.lookup f9 = some ⟨oc9, od9, .func (PySem.W.fnOf "value_text" "value_text" (defArgs s9) (defBody s9) (defScope s9) .none kV9 dc9 pm9 an9 cd9 ct9), sl9⟩)
    (c9 : PySem.W.codeIn K cd9 "value_text" = true)
    (k9 : PySem.W.keepIn K (.ref f9) = true)
    (a10 : PySem.W.nsIn K mainGlobals "name_end" = some (some (.ref f10)))
    (l10 : K.lookup f10 = some ⟨oc10, od10, .func (PySem.W.fnOf "name_end" "name_end" (defArgs s10) (defBody s10) (defScope s10) .none kV10 dc10 pm10 an10 cd10 ct10), sl10⟩)
    (c10 : PySem.W.codeIn K cd10 "name_end" = true)
    (k10 : PySem.W.keepIn K (.ref f10) = true)
    (a11 : PySem.W.nsIn K mainGlobals "read_at" = some (some (.ref f11)))
    (l11 : K.lookup f11 = some ⟨oc11, od11, .func (PySem.W.fnOf "read_at" "read_at" (defArgs s11) (defBody s11) (defScope s11) .none kV11 dc11 pm11 an11 cd11 ct11), sl11⟩)
    (c11 : PySem.W.codeIn K cd11 "read_at" = true)
    (k11 : PySem.W.keepIn K (.ref f11) = true)
    (a12 : PySem.W.nsIn K mainGlobals "read_value" = some (some (.ref f12)))
    (l12 : K.lookup f12 = some ⟨oc12, od12, .func (PySem.W.fnOf "read_value" "read_value" (defArgs s12) (defBody s12) (defScope s12) .none kV12 dc12 pm12 an12 cd12 ct12), sl12⟩)
    (c12 : PySem.W.codeIn K cd12 "read_value" = true)
    (k12 : PySem.W.keepIn K (.ref f12) = true)
    (a13 : PySem.W.nsIn K mainGlobals "may_use" = some (some (.ref f13)))
    (l13 : K.lookup f13 = some ⟨oc13, od13, .func (PySem.W.fnOf "may_use" "may_use" (defArgs s13) (defBody s13) (defScope s13) .none kV13 dc13 pm13 an13 cd13 ct13), sl13⟩)
    (c13 : PySem.W.codeIn K cd13 "may_use" = true)
    (k13 : PySem.W.keepIn K (.ref f13) = true)
    (a14 : PySem.W.nsIn K mainGlobals "may_call" = some (some (.ref f14)))
    (l14 : K.lookup f14 = some ⟨oc14, od14, .func (PySem.W.fnOf "may_call" "may_call" (defArgs s14) (defBody s14) (defScope s14) .none kV14 dc14 pm14 an14 cd14 ct14), sl14⟩)
    (c14 : PySem.W.codeIn K cd14 "may_call" = true)
    (k14 : PySem.W.keepIn K (.ref f14) = true)
    (a15 : PySem.W.nsIn K mainGlobals "is_shaped" = some (some (.ref f15)))
    (l15 : K.lookup f15 = some ⟨oc15, od15, .func (PySem.W.fnOf "is_shaped" "is_shaped" (defArgs s15) (defBody s15) (defScope s15) .none kV15 dc15 pm15 an15 cd15 ct15), sl15⟩)
    (c15 : PySem.W.codeIn K cd15 "is_shaped" = true)
    (k15 : PySem.W.keepIn K (.ref f15) = true)
    (a16 : PySem.W.nsIn K mainGlobals "is_condition" = some (some (.ref f16)))
    (l16 : K.lookup f16 = some ⟨oc16, od16, .func (PySem.W.fnOf "is_condition" "is_condition" (defArgs s16) (defBody s16) (defScope s16) .none kV16 dc16 pm16 an16 cd16 ct16), sl16⟩)
    (c16 : PySem.W.codeIn K cd16 "is_condition" = true)
    (k16 : PySem.W.keepIn K (.ref f16) = true)
    (a17 : PySem.W.nsIn K mainGlobals "value_of" = some (some (.ref f17)))
    (l17 : K.lookup f17 = some ⟨oc17, od17, .func (PySem.W.fnOf "value_of" "value_of" (defArgs s17) (defBody s17) (defScope s17) .none kV17 dc17 pm17 an17 cd17 ct17), sl17⟩)
    (c17 : PySem.W.codeIn K cd17 "value_of" = true)
    (k17 : PySem.W.keepIn K (.ref f17) = true)
    (a18 : PySem.W.nsIn K mainGlobals "term_of" = some (some (.ref f18)))
    (l18 : K.lookup f18 = some ⟨oc18, od18, .func (PySem.W.fnOf "term_of" "term_of" (defArgs s18) (defBody s18) (defScope s18) .none kV18 dc18 pm18 an18 cd18 ct18), sl18⟩)
    (c18 : PySem.W.codeIn K cd18 "term_of" = true)
    (k18 : PySem.W.keepIn K (.ref f18) = true)
    (a19 : PySem.W.nsIn K mainGlobals "pieces_of" = some (some (.ref f19)))
    (l19 : K.lookup f19 = some ⟨oc19, od19, .func (PySem.W.fnOf "pieces_of" "pieces_of" (defArgs s19) (defBody s19) (defScope s19) .none kV19 dc19 pm19 an19 cd19 ct19), sl19⟩)
    (c19 : PySem.W.codeIn K cd19 "pieces_of" = true)
    (k19 : PySem.W.keepIn K (.ref f19) = true)
    (a20 : PySem.W.nsIn K mainGlobals "combined" = some (some (.ref f20)))
    (l20 : K.lookup f20 = some ⟨oc20, od20, .func (PySem.W.fnOf "combined" "combined" (defArgs s20) (defBody s20) (defScope s20) .none kV20 dc20 pm20 an20 cd20 ct20), sl20⟩)
    (c20 : PySem.W.codeIn K cd20 "combined" = true)
    (k20 : PySem.W.keepIn K (.ref f20) = true)
    (a21 : PySem.W.nsIn K mainGlobals "condition_of" = some (some (.ref f21)))
    (l21 : K.lookup f21 = some ⟨oc21, od21, .func (PySem.W.fnOf "condition_of" "condition_of" (defArgs s21) (defBody s21) (defScope s21) .none kV21 dc21 pm21 an21 cd21 ct21), sl21⟩)
    (c21 : PySem.W.codeIn K cd21 "condition_of" = true)
    (k21 : PySem.W.keepIn K (.ref f21) = true)
    (a22 : PySem.W.nsIn K mainGlobals "conjunction_of" = some (some (.ref f22)))
    (l22 : K.lookup f22 = some ⟨oc22, od22, .func (PySem.W.fnOf "conjunction_of" "conjunction_of" (defArgs s22) (defBody s22) (defScope s22) .none kV22 dc22 pm22 an22 cd22 ct22), sl22⟩)
    (c22 : PySem.W.codeIn K cd22 "conjunction_of" = true)
    (k22 : PySem.W.keepIn K (.ref f22) = true)
    (a23 : PySem.W.nsIn K mainGlobals "unit_of" = some (some (.ref f23)))
    (l23 : K.lookup f23 = some ⟨oc23, od23, .func (PySem.W.fnOf "unit_of" "unit_of" (defArgs s23) (defBody s23) (defScope s23) .none kV23 dc23 pm23 an23 cd23 ct23), sl23⟩)
    (c23 : PySem.W.codeIn K cd23 "unit_of" = true)
    (k23 : PySem.W.keepIn K (.ref f23) = true)
    (a24 : PySem.W.nsIn K mainGlobals "search_of" = some (some (.ref f24)))
    (l24 : K.lookup f24 = some ⟨oc24, od24, .func (PySem.W.fnOf "search_of" "search_of" (defArgs s24) (defBody s24) (defScope s24) .none kV24 dc24 pm24 an24 cd24 ct24), sl24⟩)
    (c24 : PySem.W.codeIn K cd24 "search_of" = true)
    (k24 : PySem.W.keepIn K (.ref f24) = true)
    (a25 : PySem.W.nsIn K mainGlobals "part_words" = some (some (.ref f25)))
    (l25 : K.lookup f25 = some ⟨oc25, od25, .func (PySem.W.fnOf "part_words" "part_words" (defArgs s25) (defBody s25) (defScope s25) .none kV25 dc25 pm25 an25 cd25 ct25), sl25⟩)
    (c25 : PySem.W.codeIn K cd25 "part_words" = true)
    (k25 : PySem.W.keepIn K (.ref f25) = true)
    (a26 : PySem.W.nsIn K mainGlobals "condition_words" = some (some (.ref f26)))
    (l26 : K.lookup f26 = some ⟨oc26, od26, .func (PySem.W.fnOf "condition_words" "condition_words" (defArgs s26) (defBody s26) (defScope s26) .none kV26 dc26 pm26 an26 cd26 ct26), sl26⟩)
    (c26 : PySem.W.codeIn K cd26 "condition_words" = true)
    (k26 : PySem.W.keepIn K (.ref f26) = true)
    (a27 : PySem.W.nsIn K mainGlobals "need_read" = some (some (.ref f27)))
    (l27 : K.lookup f27 = some ⟨oc27, od27, .func (PySem.W.fnOf "need_read" "need_read" (defArgs s27) (defBody s27) (defScope s27) .none kV27 dc27 pm27 an27 cd27 ct27), sl27⟩)
    (c27 : PySem.W.codeIn K cd27 "need_read" = true)
    (k27 : PySem.W.keepIn K (.ref f27) = true)
    (a28 : PySem.W.nsIn K mainGlobals "stands_somewhere" = some (some (.ref f28)))
    (l28 : K.lookup f28 = some ⟨oc28, od28, .func (PySem.W.fnOf "stands_somewhere" "stands_somewhere" (defArgs s28) (defBody s28) (defScope s28) .none kV28 dc28 pm28 an28 cd28 ct28), sl28⟩)
    (c28 : PySem.W.codeIn K cd28 "stands_somewhere" = true)
    (k28 : PySem.W.keepIn K (.ref f28) = true)
    (a29 : PySem.W.nsIn K mainGlobals "condition_text" = some (some (.ref f29)))
    (l29 : K.lookup f29 = some ⟨oc29, od29, .func (PySem.W.fnOf "condition_text" "condition_text" (defArgs s29) (defBody s29) (defScope s29) .none kV29 dc29 pm29 an29 cd29 ct29), sl29⟩)
    (c29 : PySem.W.codeIn K cd29 "condition_text" = true)
    (k29 : PySem.W.keepIn K (.ref f29) = true)
    (a30 : PySem.W.nsIn K mainGlobals "read_condition" = some (some (.ref f30)))
    (l30 : K.lookup f30 = some ⟨oc30, od30, .func (PySem.W.fnOf "read_condition" "read_condition" (defArgs s30) (defBody s30) (defScope s30) .none kV30 dc30 pm30 an30 cd30 ct30), sl30⟩)
    (c30 : PySem.W.codeIn K cd30 "read_condition" = true)
    (k30 : PySem.W.keepIn K (.ref f30) = true)
    (a31 : PySem.W.nsIn K mainGlobals "_law_begin" = some (some (.ref f31)))
    (l31 : K.lookup f31 = some ⟨oc31, od31, .func (PySem.W.fnOf "_law_begin" "_law_begin" (defArgs s31) (defBody s31) (defScope s31) .none kV31 dc31 pm31 an31 cd31 ct31), sl31⟩)
    (c31 : PySem.W.codeIn K cd31 "_law_begin" = true)
    (k31 : PySem.W.keepIn K (.ref f31) = true)
    (a32 : PySem.W.nsIn K mainGlobals "_law_draw" = some (some (.ref f32)))
    (l32 : K.lookup f32 = some ⟨oc32, od32, .func (PySem.W.fnOf "_law_draw" "_law_draw" (defArgs s32) (defBody s32) (defScope s32) .none kV32 dc32 pm32 an32 cd32 ct32), sl32⟩)
    (c32 : PySem.W.codeIn K cd32 "_law_draw" = true)
    (k32 : PySem.W.keepIn K (.ref f32) = true)
    (a33 : PySem.W.nsIn K mainGlobals "_law_pick" = some (some (.ref f33)))
    (l33 : K.lookup f33 = some ⟨oc33, od33, .func (PySem.W.fnOf "_law_pick" "_law_pick" (defArgs s33) (defBody s33) (defScope s33) .none kV33 dc33 pm33 an33 cd33 ct33), sl33⟩)
    (c33 : PySem.W.codeIn K cd33 "_law_pick" = true)
    (k33 : PySem.W.keepIn K (.ref f33) = true)
    (a34 : PySem.W.nsIn K mainGlobals "_law_name" = some (some (.ref f34)))
    (l34 : K.lookup f34 = some ⟨oc34, od34, .func (PySem.W.fnOf "_law_name" "_law_name" (defArgs s34) (defBody s34) (defScope s34) .none kV34 dc34 pm34 an34 cd34 ct34), sl34⟩)
    (c34 : PySem.W.codeIn K cd34 "_law_name" = true)
    (k34 : PySem.W.keepIn K (.ref f34) = true)
    (a35 : PySem.W.nsIn K mainGlobals "_law_height" = some (some (.ref f35)))
    (l35 : K.lookup f35 = some ⟨oc35, od35, .func (PySem.W.fnOf "_law_height" "_law_height" (defArgs s35) (defBody s35) (defScope s35) .none kV35 dc35 pm35 an35 cd35 ct35), sl35⟩)
    (c35 : PySem.W.codeIn K cd35 "_law_height" = true)
    (k35 : PySem.W.keepIn K (.ref f35) = true)
    (a36 : PySem.W.nsIn K mainGlobals "_law_value" = some (some (.ref f36)))
    (l36 : K.lookup f36 = some ⟨oc36, od36, .func (PySem.W.fnOf "_law_value" "_law_value" (defArgs s36) (defBody s36) (defScope s36) .none kV36 dc36 pm36 an36 cd36 ct36), sl36⟩)
    (c36 : PySem.W.codeIn K cd36 "_law_value" = true)
    (k36 : PySem.W.keepIn K (.ref f36) = true)
    (a37 : PySem.W.nsIn K mainGlobals "_law_term" = some (some (.ref f37)))
    (l37 : K.lookup f37 = some ⟨oc37, od37, .func (PySem.W.fnOf "_law_term" "_law_term" (defArgs s37) (defBody s37) (defScope s37) .none kV37 dc37 pm37 an37 cd37 ct37), sl37⟩)
    (c37 : PySem.W.codeIn K cd37 "_law_term" = true)
    (k37 : PySem.W.keepIn K (.ref f37) = true)
    (a38 : PySem.W.nsIn K mainGlobals "_law_condition" = some (some (.ref f38)))
    (l38 : K.lookup f38 = some ⟨oc38, od38, .func (PySem.W.fnOf "_law_condition" "_law_condition" (defArgs s38) (defBody s38) (defScope s38) .none kV38 dc38 pm38 an38 cd38 ct38), sl38⟩)
    (c38 : PySem.W.codeIn K cd38 "_law_condition" = true)
    (k38 : PySem.W.keepIn K (.ref f38) = true)
    (a39 : PySem.W.nsIn K mainGlobals "_law_value_text" = some (some (.ref f39)))
    (l39 : K.lookup f39 = some ⟨oc39, od39, .func (PySem.W.fnOf "_law_value_text" "_law_value_text" (defArgs s39) (defBody s39) (defScope s39) .none kV39 dc39 pm39 an39 cd39 ct39), sl39⟩)
    (c39 : PySem.W.codeIn K cd39 "_law_value_text" = true)
    (k39 : PySem.W.keepIn K (.ref f39) = true)
    (a40 : PySem.W.nsIn K mainGlobals "_law_condition_text" = some (some (.ref f40)))
    (l40 : K.lookup f40 = some ⟨oc40, od40, .func (PySem.W.fnOf "_law_condition_text" "_law_condition_text" (defArgs s40) (defBody s40) (defScope s40) .none kV40 dc40 pm40 an40 cd40 ct40), sl40⟩)
    (c40 : PySem.W.codeIn K cd40 "_law_condition_text" = true)
    (k40 : PySem.W.keepIn K (.ref f40) = true)
    (a41 : PySem.W.nsIn K mainGlobals "_law_told" = some (some (.ref f41)))
    (l41 : K.lookup f41 = some ⟨oc41, od41, .func (PySem.W.fnOf "_law_told" "_law_told" (defArgs s41) (defBody s41) (defScope s41) .none kV41 dc41 pm41 an41 cd41 ct41), sl41⟩)
    (c41 : PySem.W.codeIn K cd41 "_law_told" = true)
    (k41 : PySem.W.keepIn K (.ref f41) = true)
    (a42 : PySem.W.nsIn K mainGlobals "_law_right" = some (some (.ref f42)))
    (l42 : K.lookup f42 = some ⟨oc42, od42, .func (PySem.W.fnOf "_law_right" "_law_right" (defArgs s42) (defBody s42) (defScope s42) .none kV42 dc42 pm42 an42 (.ref cc42) ct42), sl42⟩)
    (mc42 : K.lookup cc42 = some ⟨.type "code", mo42, .fields mv42, ms42⟩)
    (mp42 : (mv42[11]? : Option Value) = some (.ref PP42))
    (mh42 : PySem.W.codeHdIn K cc42 PP42 = true)
    (mn42 : K.lookup PP42 = none)
    (my42 : h.get? PP42 = some { cls := .none, data := .fields #[] })
    (c42 : PySem.W.codeIn K (.ref cc42) "_law_right" = true)
    (k42 : PySem.W.keepIn K (.ref f42) = true)
    (a43 : PySem.W.nsIn K mainGlobals "law" = some (some (.ref f43)))
    (l43 : K.lookup f43 = some ⟨oc43, od43, .func (PySem.W.fnOf "law" "law" (defArgs s43) (defBody s43) (defScope s43) .none kV43 dc43 pm43 an43 cd43 ct43), sl43⟩)
    (c43 : PySem.W.codeIn K cd43 "law" = true)
    (k43 : PySem.W.keepIn K (.ref f43) = true)
    (gb0 : PySem.W.nsIn K mainGlobals "DEEPEST" = some (some (.int 100 tk0)))
    (gb1 : PySem.W.nsIn K mainGlobals "HIGHEST_LEVEL" = some (some (.int 3 tk1)))
    (gb2 : PySem.W.nsIn K mainGlobals "LETTERS" = some (some (.str "abcdefghijklmnopqrstuvwxyz" tk2)))
    (gb3 : PySem.W.nsIn K mainGlobals "LEVELS" = some (some (.ref ga3)))
    (gt3 : K.lookup ga3 = some ⟨.type "tuple", go3, .seq #[(.int 1 gk3_0), (.int 2 gk3_1), (.int 3 gk3_2)] gn3, gs3⟩)
    (gb4 : PySem.W.nsIn K mainGlobals "MOST_ASKS" = some (some (.int 400 tk4)))
    (gb5 : PySem.W.nsIn K mainGlobals "MOST_HEIGHT" = some (some (.int 4 tk5)))
    (gb6 : PySem.W.nsIn K mainGlobals "MOST_LEVEL" = some (some (.int 3 tk6)))
    (gb7 : PySem.W.nsIn K mainGlobals "MOST_NESTED" = some (some (.int 101 tk7)))
    (gb8 : PySem.W.nsIn K mainGlobals "MOST_SIGNS" = some (some (.int 8 tk8)))
    (gb9 : PySem.W.nsIn K mainGlobals "SIGNS" = some (some (.str "abcdefghijklmnopqrstuvwxyz0123456789" tk9)))
    (z0 : PySem.W.nsIn K mainGlobals "abs" = some none)
    (z1 : PySem.W.nsIn K mainGlobals "all" = some none)
    (z2 : PySem.W.nsIn K mainGlobals "any" = some none)
    (z3 : PySem.W.nsIn K mainGlobals "bool" = some none)
    (z4 : PySem.W.nsIn K mainGlobals "int" = some none)
    (z5 : PySem.W.nsIn K mainGlobals "isinstance" = some none)
    (z6 : PySem.W.nsIn K mainGlobals "len" = some none)
    (z7 : PySem.W.nsIn K mainGlobals "max" = some none)
    (z8 : PySem.W.nsIn K mainGlobals "min" = some none)
    (z9 : PySem.W.nsIn K mainGlobals "range" = some none)
    (z10 : PySem.W.nsIn K mainGlobals "repr" = some none)
    (z11 : PySem.W.nsIn K mainGlobals "str" = some none)
    (z12 : PySem.W.nsIn K mainGlobals "tuple" = some none)
    (xa1 : PySem.W.excIn K C1 [.type "ValueError", .type "Exception", .type "BaseException", .type "object"] "ValueError.__new__" = true)
    (xb1 : PySem.W.keepIn K (.ref C1) = true)
    (xc1 : PySem.W.subIn K (.ref C1) (.type "BaseException") = some true)
    (xd1 : PySem.W.typeIn K (.ref C1) = some (.type "type"))
    (xa3 : PySem.W.excIn K C3 [.type "ValueError", .type "Exception", .type "BaseException", .type "object"] "ValueError.__new__" = true)
    (xb3 : PySem.W.keepIn K (.ref C3) = true)
    (xc3 : PySem.W.subIn K (.ref C3) (.type "BaseException") = some true)
    (xd3 : PySem.W.typeIn K (.ref C3) = some (.type "type"))
    (xa6 : PySem.W.excIn K C6 [.type "ValueError", .type "Exception", .type "BaseException", .type "object"] "ValueError.__new__" = true)
    (xb6 : PySem.W.keepIn K (.ref C6) = true)
    (xc6 : PySem.W.subIn K (.ref C6) (.type "BaseException") = some true)
    (xd6 : PySem.W.typeIn K (.ref C6) = some (.type "type"))
    (xm_LoopError_0 : PySem.W.exmOne K (.ref C0) (.ref C0) = some true)
    (xm_LoopError_1 : PySem.W.exmOne K (.ref C1) (.ref C0) = some true)
    (xm_LoopError_2 : PySem.W.exmOne K (.ref C2) (.ref C0) = some true)
    (xm_LoopError_3 : PySem.W.exmOne K (.ref C3) (.ref C0) = some true)
    (xm_LoopError_4 : PySem.W.exmOne K (.ref C4) (.ref C0) = some true)
    (xm_LoopError_5 : PySem.W.exmOne K (.ref C5) (.ref C0) = some true)
    (xm_LoopError_6 : PySem.W.exmOne K (.ref C6) (.ref C0) = some true)
    (xm_NoText_0 : PySem.W.exmOne K (.ref C0) (.ref C6) = some false)
    (xm_NoText_1 : PySem.W.exmOne K (.ref C1) (.ref C6) = some false)
    (xm_NoText_2 : PySem.W.exmOne K (.ref C2) (.ref C6) = some false)
    (xm_NoText_3 : PySem.W.exmOne K (.ref C3) (.ref C6) = some false)
    (xm_NoText_4 : PySem.W.exmOne K (.ref C4) (.ref C6) = some false)
    (xm_NoText_5 : PySem.W.exmOne K (.ref C5) (.ref C6) = some false)
    (xm_NoText_6 : PySem.W.exmOne K (.ref C6) (.ref C6) = some true)
    (yg0 : PySem.W.findIn K (.ref C0) "__getattribute__" = some (some (.builtin "BaseException.__getattribute__")))
    (yk0 : PySem.W.findIn K (.ref C0) "__getattr__" = some none)
    (ys0 : PySem.W.subIn K (.ref C0) (.type "BaseException") = some true)
    (yd0 : PySem.W.hasDictIn K C0 = true)
    (ya0 : PySem.W.findIn K (.ref C0) "__class__" = some (some (.builtin "object.__class__")))
    (yn0 : PySem.W.specialIn K (.builtin "object.__class__") "__get__" = some (some (.builtin "getset_descriptor.__get__")))
    (yt0 : PySem.W.takesIn K (.builtin "object.__class__") = some true)
    (ym0 : PySem.W.mroIn K C0 (.type "object") = some true)
    (yg1 : PySem.W.findIn K (.ref C1) "__getattribute__" = some (some (.builtin "BaseException.__getattribute__")))
    (yk1 : PySem.W.findIn K (.ref C1) "__getattr__" = some none)
    (ys1 : PySem.W.subIn K (.ref C1) (.type "BaseException") = some true)
    (yd1 : PySem.W.hasDictIn K C1 = true)
    (ya1 : PySem.W.findIn K (.ref C1) "__class__" = some (some (.builtin "object.__class__")))
    (yn1 : PySem.W.specialIn K (.builtin "object.__class__") "__get__" = some (some (.builtin "getset_descriptor.__get__")))
    (yt1 : PySem.W.takesIn K (.builtin "object.__class__") = some true)
    (ym1 : PySem.W.mroIn K C1 (.type "object") = some true)
    (yg2 : PySem.W.findIn K (.ref C2) "__getattribute__" = some (some (.builtin "BaseException.__getattribute__")))
    (yk2 : PySem.W.findIn K (.ref C2) "__getattr__" = some none)
    (ys2 : PySem.W.subIn K (.ref C2) (.type "BaseException") = some true)
    (yd2 : PySem.W.hasDictIn K C2 = true)
    (ya2 : PySem.W.findIn K (.ref C2) "__class__" = some (some (.builtin "object.__class__")))
    (yn2 : PySem.W.specialIn K (.builtin "object.__class__") "__get__" = some (some (.builtin "getset_descriptor.__get__")))
    (yt2 : PySem.W.takesIn K (.builtin "object.__class__") = some true)
    (ym2 : PySem.W.mroIn K C2 (.type "object") = some true)
    (yg3 : PySem.W.findIn K (.ref C3) "__getattribute__" = some (some (.builtin "BaseException.__getattribute__")))
    (yk3 : PySem.W.findIn K (.ref C3) "__getattr__" = some none)
    (ys3 : PySem.W.subIn K (.ref C3) (.type "BaseException") = some true)
    (yd3 : PySem.W.hasDictIn K C3 = true)
    (ya3 : PySem.W.findIn K (.ref C3) "__class__" = some (some (.builtin "object.__class__")))
    (yn3 : PySem.W.specialIn K (.builtin "object.__class__") "__get__" = some (some (.builtin "getset_descriptor.__get__")))
    (yt3 : PySem.W.takesIn K (.builtin "object.__class__") = some true)
    (ym3 : PySem.W.mroIn K C3 (.type "object") = some true)
    (yg4 : PySem.W.findIn K (.ref C4) "__getattribute__" = some (some (.builtin "BaseException.__getattribute__")))
    (yk4 : PySem.W.findIn K (.ref C4) "__getattr__" = some none)
    (ys4 : PySem.W.subIn K (.ref C4) (.type "BaseException") = some true)
    (yd4 : PySem.W.hasDictIn K C4 = true)
    (ya4 : PySem.W.findIn K (.ref C4) "__class__" = some (some (.builtin "object.__class__")))
    (yn4 : PySem.W.specialIn K (.builtin "object.__class__") "__get__" = some (some (.builtin "getset_descriptor.__get__")))
    (yt4 : PySem.W.takesIn K (.builtin "object.__class__") = some true)
    (ym4 : PySem.W.mroIn K C4 (.type "object") = some true)
    (yg5 : PySem.W.findIn K (.ref C5) "__getattribute__" = some (some (.builtin "BaseException.__getattribute__")))
    (yk5 : PySem.W.findIn K (.ref C5) "__getattr__" = some none)
    (ys5 : PySem.W.subIn K (.ref C5) (.type "BaseException") = some true)
    (yd5 : PySem.W.hasDictIn K C5 = true)
    (ya5 : PySem.W.findIn K (.ref C5) "__class__" = some (some (.builtin "object.__class__")))
    (yn5 : PySem.W.specialIn K (.builtin "object.__class__") "__get__" = some (some (.builtin "getset_descriptor.__get__")))
    (yt5 : PySem.W.takesIn K (.builtin "object.__class__") = some true)
    (ym5 : PySem.W.mroIn K C5 (.type "object") = some true)
    (yg6 : PySem.W.findIn K (.ref C6) "__getattribute__" = some (some (.builtin "BaseException.__getattribute__")))
    (yk6 : PySem.W.findIn K (.ref C6) "__getattr__" = some none)
    (ys6 : PySem.W.subIn K (.ref C6) (.type "BaseException") = some true)
    (yd6 : PySem.W.hasDictIn K C6 = true)
    (ya6 : PySem.W.findIn K (.ref C6) "__class__" = some (some (.builtin "object.__class__")))
    (yn6 : PySem.W.specialIn K (.builtin "object.__class__") "__get__" = some (some (.builtin "getset_descriptor.__get__")))
    (yt6 : PySem.W.takesIn K (.builtin "object.__class__") = some true)
    (ym6 : PySem.W.mroIn K C6 (.type "object") = some true)
    (gda0 : PySem.W.nsIn K mainGlobals "IN_PARENTHESES" = some (some (.ref gp0)))
    (gdl0 : K.lookup gp0 = some ⟨.type "dict", none, .dict ge0 gn0, #[]⟩)
    (gdk0_2 : PySem.W.KeysLit w.params ge0.toList)
    (gds0 : (gp0 == sysModules) = false)
    (gdw0 : keysAre ["and", "or"] ge0.toList = true)
    (gdv0_0 : PySem.W.nsIn K gp0 "and" = some (some (.ref gad0_0)))
    (gtd0_0 : K.lookup gad0_0 = some ⟨.type "tuple", god0_0, .seq #[(.str "and" gkd0_0_0), (.str "or" gkd0_0_1)] gnd0_0, gsd0_0⟩)
    (gdv0_1 : PySem.W.nsIn K gp0 "or" = some (some (.ref gad0_1)))
    (gtd0_1 : K.lookup gad0_1 = some ⟨.type "tuple", god0_1, .seq #[(.str "or" gkd0_1_0)] gnd0_1, gsd0_1⟩)
    (gda1 : PySem.W.nsIn K mainGlobals "SIDES" = some (some (.ref gp1)))
    (gdl1 : K.lookup gp1 = some ⟨.type "dict", none, .dict ge1 gn1, #[]⟩)
    (gdk1_2 : PySem.W.KeysLit w.params ge1.toList)
    (gds1 : (gp1 == sysModules) = false)
    (gdw1 : keysAre ["(", ")"] ge1.toList = true)
    (gdv1_0 : PySem.W.nsIn K gp1 "(" = some (some (.int 1 gkd1_0)))
    (gdv1_1 : PySem.W.nsIn K gp1 ")" = some (some (.int (-1) gkd1_1)))
    (S : LawTrue prog kit 200 43) : ∃ (fd : FuncData) (TB : List LamR), (∀ (s : Shared) (v : Value), BindsTo s fd ⟨[v], []⟩ [("_law_script", v)]) ∧ (∀ r ∈ TB, h.get? r.P = some { cls := .none, data := .fields #[] } ∧ K.lookup r.P = none ∧ PySem.W.codeHdIn K r.c r.P = true) ∧ ∀ base : Heap, K.In base → base.Ns mainGlobals mg → (∀ r ∈ TB, LamX.TabB base mg r.c r.P) → FnOkG l.prog w K mg base (L2.CX l.prog w) (200 + 10) fa fd ["_law_script"] (spL K TB) := by
  have e := hfa.symm.trans (PySem.W.mg_of X G a43)
  cases e
  let fd0 : FuncData := PySem.W.fnOf "is_number" "is_number" (defArgs s0) (defBody s0) (defScope s0) .none kV0 dc0 pm0 an0 cd0 ct0
  let fd1 : FuncData := PySem.W.fnOf "is_name" "is_name" (defArgs s1) (defBody s1) (defScope s1) .none kV1 dc1 pm1 an1 cd1 ct1
  let fd2 : FuncData := PySem.W.fnOf "measured" "measured" (defArgs s2) (defBody s2) (defScope s2) .none kV2 dc2 pm2 an2 cd2 ct2
  let fd3 : FuncData := PySem.W.fnOf "is_value" "is_value" (defArgs s3) (defBody s3) (defScope s3) .none kV3 dc3 pm3 an3 cd3 ct3
  let fd4 : FuncData := PySem.W.fnOf "is_term" "is_term" (defArgs s4) (defBody s4) (defScope s4) .none kV4 dc4 pm4 an4 cd4 ct4
  let fd5 : FuncData := PySem.W.fnOf "sizes_of" "sizes_of" (defArgs s5) (defBody s5) (defScope s5) .none kV5 dc5 pm5 an5 cd5 ct5
  let fd6 : FuncData := PySem.W.fnOf "highest" "highest" (defArgs s6) (defBody s6) (defScope s6) .none kV6 dc6 pm6 an6 cd6 ct6
  let fd7 : FuncData := PySem.W.fnOf "need_value" "need_value" (defArgs s7) (defBody s7) (defScope s7) (.ref T7) kV7 dc7 pm7 an7 cd7 ct7
  let fd8 : FuncData := PySem.W.fnOf "text_of" "text_of" (defArgs s8) (defBody s8) (defScope s8) .none kV8 dc8 pm8 an8 cd8 ct8
  let fd9 : FuncData := PySem.W.fnOf "value_text" "value_text" (defArgs s9) (defBody s9) (defScope s9) .none kV9 dc9 pm9 an9 cd9 ct9
  let fd10 : FuncData := PySem.W.fnOf "name_end" "name_end" (defArgs s10) (defBody s10) (defScope s10) .none kV10 dc10 pm10 an10 cd10 ct10
  let fd11 : FuncData := PySem.W.fnOf "read_at" "read_at" (defArgs s11) (defBody s11) (defScope s11) .none kV11 dc11 pm11 an11 cd11 ct11
  let fd12 : FuncData := PySem.W.fnOf "read_value" "read_value" (defArgs s12) (defBody s12) (defScope s12) .none kV12 dc12 pm12 an12 cd12 ct12
  let fd13 : FuncData := PySem.W.fnOf "may_use" "may_use" (defArgs s13) (defBody s13) (defScope s13) .none kV13 dc13 pm13 an13 cd13 ct13
  let fd14 : FuncData := PySem.W.fnOf "may_call" "may_call" (defArgs s14) (defBody s14) (defScope s14) .none kV14 dc14 pm14 an14 cd14 ct14
  let fd15 : FuncData := PySem.W.fnOf "is_shaped" "is_shaped" (defArgs s15) (defBody s15) (defScope s15) .none kV15 dc15 pm15 an15 cd15 ct15
  let fd16 : FuncData := PySem.W.fnOf "is_condition" "is_condition" (defArgs s16) (defBody s16) (defScope s16) .none kV16 dc16 pm16 an16 cd16 ct16
  let fd17 : FuncData := PySem.W.fnOf "value_of" "value_of" (defArgs s17) (defBody s17) (defScope s17) .none kV17 dc17 pm17 an17 cd17 ct17
  let fd18 : FuncData := PySem.W.fnOf "term_of" "term_of" (defArgs s18) (defBody s18) (defScope s18) .none kV18 dc18 pm18 an18 cd18 ct18
  let fd19 : FuncData := PySem.W.fnOf "pieces_of" "pieces_of" (defArgs s19) (defBody s19) (defScope s19) .none kV19 dc19 pm19 an19 cd19 ct19
  let fd20 : FuncData := PySem.W.fnOf "combined" "combined" (defArgs s20) (defBody s20) (defScope s20) .none kV20 dc20 pm20 an20 cd20 ct20
  let fd21 : FuncData := PySem.W.fnOf "condition_of" "condition_of" (defArgs s21) (defBody s21) (defScope s21) .none kV21 dc21 pm21 an21 cd21 ct21
  let fd22 : FuncData := PySem.W.fnOf "conjunction_of" "conjunction_of" (defArgs s22) (defBody s22) (defScope s22) .none kV22 dc22 pm22 an22 cd22 ct22
  let fd23 : FuncData := PySem.W.fnOf "unit_of" "unit_of" (defArgs s23) (defBody s23) (defScope s23) .none kV23 dc23 pm23 an23 cd23 ct23
  let fd24 : FuncData := PySem.W.fnOf "search_of" "search_of" (defArgs s24) (defBody s24) (defScope s24) .none kV24 dc24 pm24 an24 cd24 ct24
  let fd25 : FuncData := PySem.W.fnOf "part_words" "part_words" (defArgs s25) (defBody s25) (defScope s25) .none kV25 dc25 pm25 an25 cd25 ct25
  let fd26 : FuncData := PySem.W.fnOf "condition_words" "condition_words" (defArgs s26) (defBody s26) (defScope s26) .none kV26 dc26 pm26 an26 cd26 ct26
  let fd27 : FuncData := PySem.W.fnOf "need_read" "need_read" (defArgs s27) (defBody s27) (defScope s27) .none kV27 dc27 pm27 an27 cd27 ct27
  let fd28 : FuncData := PySem.W.fnOf "stands_somewhere" "stands_somewhere" (defArgs s28) (defBody s28) (defScope s28) .none kV28 dc28 pm28 an28 cd28 ct28
  let fd29 : FuncData := PySem.W.fnOf "condition_text" "condition_text" (defArgs s29) (defBody s29) (defScope s29) .none kV29 dc29 pm29 an29 cd29 ct29
  let fd30 : FuncData := PySem.W.fnOf "read_condition" "read_condition" (defArgs s30) (defBody s30) (defScope s30) .none kV30 dc30 pm30 an30 cd30 ct30
  let fd31 : FuncData := PySem.W.fnOf "_law_begin" "_law_begin" (defArgs s31) (defBody s31) (defScope s31) .none kV31 dc31 pm31 an31 cd31 ct31
  let fd32 : FuncData := PySem.W.fnOf "_law_draw" "_law_draw" (defArgs s32) (defBody s32) (defScope s32) .none kV32 dc32 pm32 an32 cd32 ct32
  let fd33 : FuncData := PySem.W.fnOf "_law_pick" "_law_pick" (defArgs s33) (defBody s33) (defScope s33) .none kV33 dc33 pm33 an33 cd33 ct33
  let fd34 : FuncData := PySem.W.fnOf "_law_name" "_law_name" (defArgs s34) (defBody s34) (defScope s34) .none kV34 dc34 pm34 an34 cd34 ct34
  let fd35 : FuncData := PySem.W.fnOf "_law_height" "_law_height" (defArgs s35) (defBody s35) (defScope s35) .none kV35 dc35 pm35 an35 cd35 ct35
  let fd36 : FuncData := PySem.W.fnOf "_law_value" "_law_value" (defArgs s36) (defBody s36) (defScope s36) .none kV36 dc36 pm36 an36 cd36 ct36
  let fd37 : FuncData := PySem.W.fnOf "_law_term" "_law_term" (defArgs s37) (defBody s37) (defScope s37) .none kV37 dc37 pm37 an37 cd37 ct37
  let fd38 : FuncData := PySem.W.fnOf "_law_condition" "_law_condition" (defArgs s38) (defBody s38) (defScope s38) .none kV38 dc38 pm38 an38 cd38 ct38
  let fd39 : FuncData := PySem.W.fnOf "_law_value_text" "_law_value_text" (defArgs s39) (defBody s39) (defScope s39) .none kV39 dc39 pm39 an39 cd39 ct39
  let fd40 : FuncData := PySem.W.fnOf "_law_condition_text" "_law_condition_text" (defArgs s40) (defBody s40) (defScope s40) .none kV40 dc40 pm40 an40 cd40 ct40
  let fd41 : FuncData := PySem.W.fnOf "_law_told" "_law_told" (defArgs s41) (defBody s41) (defScope s41) .none kV41 dc41 pm41 an41 cd41 ct41
  let fd42 : FuncData := PySem.W.fnOf "_law_right" "_law_right" (defArgs s42) (defBody s42) (defScope s42) .none kV42 dc42 pm42 an42 (.ref cc42) ct42
  let fd43 : FuncData := PySem.W.fnOf "law" "law" (defArgs s43) (defBody s43) (defScope s43) .none kV43 dc43 pm43 an43 cd43 ct43
  have W : LawN l.prog w L K mg [C0, C1, C2, C3, C4, C5, C6] [⟨(defScope s42).names, cc42, PP42, ("_law_right" : Str) ++ (".<locals>." : Str) ++ ("<lambda>" : Str)⟩] prog kit [(d0, f0, fd0), (d1, f1, fd1), (d2, f2, fd2), (d3, f3, fd3), (d4, f4, fd4), (d5, f5, fd5), (d6, f6, fd6), (d7, f7, fd7), (d8, f8, fd8), (d9, f9, fd9), (d10, f10, fd10), (d11, f11, fd11), (d12, f12, fd12), (d13, f13, fd13), (d14, f14, fd14), (d15, f15, fd15), (d16, f16, fd16), (d17, f17, fd17), (d18, f18, fd18), (d19, f19, fd19), (d20, f20, fd20), (d21, f21, fd21), (d22, f22, fd22), (d23, f23, fd23), (d24, f24, fd24), (d25, f25, fd25), (d26, f26, fd26), (d27, f27, fd27), (d28, f28, fd28), (d29, f29, fd29), (d30, f30, fd30), (d31, f31, fd31), (d32, f32, fd32), (d33, f33, fd33), (d34, f34, fd34), (d35, f35, fd35), (d36, f36, fd36), (d37, f37, fd37), (d38, f38, fd38), (d39, f39, fd39), (d40, f40, fd40), (d41, f41, fd41), (d42, f42, fd42), (d43, fa, fd43)] := by
    refine ⟨⟨⟨rfl, ⟨⟨_, _, _, _, _, _, _, _, _, _, rfl, l0, c0⟩, k0⟩, ok0⟩, ⟨rfl, ⟨⟨_, _, _, _, _, _, _, _, _, _, rfl, l1, c1⟩, k1⟩, ok1⟩, ⟨rfl, ⟨⟨_, _, _, _, _, _, _, _, _, _, rfl, l2, c2⟩, k2⟩, ok2⟩, ⟨rfl, ⟨⟨_, _, _, _, _, _, _, _, _, _, rfl, l3, c3⟩, k3⟩, ok3⟩, ⟨rfl, ⟨⟨_, _, _, _, _, _, _, _, _, _, rfl, l4, c4⟩, k4⟩, ok4⟩, ⟨rfl, ⟨⟨_, _, _, _, _, _, _, _, _, _, rfl, l5, c5⟩, k5⟩, ok5⟩, ⟨rfl, ⟨⟨_, _, _, _, _, _, _, _, _, _, rfl, l6, c6⟩, k6⟩, ok6⟩, ⟨rfl, ⟨⟨_, _, _, _, _, _, _, _, _, _, rfl, l7, c7⟩, k7⟩, ok7⟩, ⟨rfl, ⟨⟨_, _, _, _, _, _, _, _, _, _, rfl, l8, c8⟩, k8⟩, ok8⟩, ⟨rfl, ⟨⟨_, _, _, _, _, _, _, _, _, _, rfl, l9, c9⟩, k9⟩, ok9⟩, ⟨rfl, ⟨⟨_, _, _, _, _, _, _, _, _, _, rfl, l10, c10⟩, k10⟩, ok10⟩, ⟨rfl, ⟨⟨_, _, _, _, _, _, _, _, _, _, rfl, l11, c11⟩, k11⟩, ok11⟩, ⟨rfl, ⟨⟨_, _, _, _, _, _, _, _, _, _, rfl, l12, c12⟩, k12⟩, ok12⟩, ⟨rfl, ⟨⟨_, _, _, _, _, _, _, _, _, _, rfl, l13, c13⟩, k13⟩, ok13⟩, ⟨rfl, ⟨⟨_, _, _, _, _, _, _, _, _, _, rfl, l14, c14⟩, k14⟩, ok14⟩, ⟨rfl, ⟨⟨_, _, _, _, _, _, _, _, _, _, rfl, l15, c15⟩, k15⟩, ok15⟩, ⟨rfl, ⟨⟨_, _, _, _, _, _, _, _, _, _, rfl, l16, c16⟩, k16⟩, ok16⟩, ⟨rfl, ⟨⟨_, _, _, _, _, _, _, _, _, _, rfl, l17, c17⟩, k17⟩, ok17⟩, ⟨rfl, ⟨⟨_, _, _, _, _, _, _, _, _, _, rfl, l18, c18⟩, k18⟩, ok18⟩, ⟨rfl, ⟨⟨_, _, _, _, _, _, _, _, _, _, rfl, l19, c19⟩, k19⟩, ok19⟩, ⟨rfl, ⟨⟨_, _, _, _, _, _, _, _, _, _, rfl, l20, c20⟩, k20⟩, ok20⟩, ⟨rfl, ⟨⟨_, _, _, _, _, _, _, _, _, _, rfl, l21, c21⟩, k21⟩, ok21⟩, ⟨rfl, ⟨⟨_, _, _, _, _, _, _, _, _, _, rfl, l22, c22⟩, k22⟩, ok22⟩, ⟨rfl, ⟨⟨_, _, _, _, _, _, _, _, _, _, rfl, l23, c23⟩, k23⟩, ok23⟩, ⟨rfl, ⟨⟨_, _, _, _, _, _, _, _, _, _, rfl, l24, c24⟩, k24⟩, ok24⟩, ⟨rfl, ⟨⟨_, _, _, _, _, _, _, _, _, _, rfl, l25, c25⟩, k25⟩, ok25⟩, ⟨rfl, ⟨⟨_, _, _, _, _, _, _, _, _, _, rfl, l26, c26⟩, k26⟩, ok26⟩, ⟨rfl, ⟨⟨_, _, _, _, _, _, _, _, _, _, rfl, l27, c27⟩, k27⟩, ok27⟩, ⟨rfl, ⟨⟨_, _, _, _, _, _, _, _, _, _, rfl, l28, c28⟩, k28⟩, ok28⟩, ⟨rfl, ⟨⟨_, _, _, _, _, _, _, _, _, _, rfl, l29, c29⟩, k29⟩, ok29⟩, ⟨rfl, ⟨⟨_, _, _, _, _, _, _, _, _, _, rfl, l30, c30⟩, k30⟩, ok30⟩, ⟨rfl, ⟨⟨_, _, _, _, _, _, _, _, _, _, rfl, l31, c31⟩, k31⟩, ok31⟩, ⟨rfl, ⟨⟨_, _, _, _, _, _, _, _, _, _, rfl, l32, c32⟩, k32⟩, ok32⟩, ⟨rfl, ⟨⟨_, _, _, _, _, _, _, _, _, _, rfl, l33, c33⟩, k33⟩, ok33⟩, ⟨rfl, ⟨⟨_, _, _, _, _, _, _, _, _, _, rfl, l34, c34⟩, k34⟩, ok34⟩, ⟨rfl, ⟨⟨_, _, _, _, _, _, _, _, _, _, rfl, l35, c35⟩, k35⟩, ok35⟩, ⟨rfl, ⟨⟨_, _, _, _, _, _, _, _, _, _, rfl, l36, c36⟩, k36⟩, ok36⟩, ⟨rfl, ⟨⟨_, _, _, _, _, _, _, _, _, _, rfl, l37, c37⟩, k37⟩, ok37⟩, ⟨rfl, ⟨⟨_, _, _, _, _, _, _, _, _, _, rfl, l38, c38⟩, k38⟩, ok38⟩, ⟨rfl, ⟨⟨_, _, _, _, _, _, _, _, _, _, rfl, l39, c39⟩, k39⟩, ok39⟩, ⟨rfl, ⟨⟨_, _, _, _, _, _, _, _, _, _, rfl, l40, c40⟩, k40⟩, ok40⟩, ⟨rfl, ⟨⟨_, _, _, _, _, _, _, _, _, _, rfl, l41, c41⟩, k41⟩, ok41⟩, ⟨rfl, ⟨⟨_, _, _, _, _, _, _, _, _, _, rfl, l42, c42⟩, k42⟩, ok42⟩, ⟨rfl, ⟨⟨_, _, _, _, _, _, _, _, _, _, rfl, l43, c43⟩, k43⟩, ok43⟩, trivial⟩, ?shape, ?fn, ?cls, ?init, ?own, ?ownL, ?ownB, ?xcl, ?xkit, ?mth, ?glb, ?blt, ?attr, ?kit_, ?kitc, ?exc, ?tch, ?gdc, ?lamD, ?lamS, ?lamN, ?lamU, ?lamM⟩
    case shape => exact ⟨⟨_, rfl, rfl, bindsC_pos (ps := ["thing"]) (len1 fun _ => rfl)⟩, ⟨_, rfl, rfl, bindsC_pos (ps := ["thing"]) (len1 fun _ => rfl)⟩, ⟨_, rfl, rfl, bindsC_pos (ps := ["thing", "room"]) (len2 fun _ _ => rfl)⟩, ⟨_, rfl, rfl, bindsC_pos (ps := ["thing"]) (len1 fun _ => rfl)⟩, ⟨_, rfl, rfl, bindsC_pos (ps := ["thing"]) (len1 fun _ => rfl)⟩, ⟨_, rfl, rfl, bindsC_pos (ps := ["value"]) (len1 fun _ => rfl)⟩, ⟨_, rfl, rfl, bindsC_pos (ps := ["value"]) (len1 fun _ => rfl)⟩, ⟨_, rfl, rfl, bindsC_D (ks := []) (ps := ["value", "level"]) (Dk := 0) (dvs := [(L2.V.int 3)]) (ms := []) (its := [(.int 3 tkd7_0)]) (fun {α} us its mv ws => ((us.drop 0).take 1) ++ ((its.drop 0).take 1)) t7 rfl (.cons (show L2.RelV (L2.V.int 3) _ from ⟨_, rfl⟩) (.nil)) (fun q hq => (by cases hq)) (fun r1 r2 r3 r4 => (((r1.drop 0).take 1)).append ((r2.drop 0).take 1)) (fun us mv ws l1 l2 l3 => match us, mv, ws, l1, l2, l3 with | [a0], [], [], _, _, _ => ⟨_, rfl, rfl⟩) (fun H ds vs es zs l1 l2 r1 r2 => match ds, l1, es, l2 with | [_], _, [], _ => by rcases r1 with _ | ⟨p0, r1⟩; cases r1; cases r2; exact .cons p0 (.cons (.int _) (.nil)))⟩, ⟨_, rfl, rfl, bindsC_pos (ps := ["value"]) (len1 fun _ => rfl)⟩, ⟨_, rfl, rfl, bindsC_pos (ps := ["value"]) (len1 fun _ => rfl)⟩, ⟨_, rfl, rfl, bindsC_pos (ps := ["text", "at"]) (len2 fun _ _ => rfl)⟩, ⟨_, rfl, rfl, bindsC_pos (ps := ["text", "at", "room"]) (len3 fun _ _ _ => rfl)⟩, ⟨_, rfl, rfl, bindsC_pos (ps := ["text"]) (len1 fun _ => rfl)⟩, ⟨_, rfl, rfl, bindsC_pos (ps := ["value", "level", "called"]) (len3 fun _ _ _ => rfl)⟩, ⟨_, rfl, rfl, bindsC_pos (ps := ["term", "level", "called"]) (len3 fun _ _ _ => rfl)⟩, ⟨_, rfl, rfl, bindsC_pos (ps := ["thing"]) (len1 fun _ => rfl)⟩, ⟨_, rfl, rfl, bindsC_pos (ps := ["thing", "level", "called"]) (len3 fun _ _ _ => rfl)⟩, ⟨_, rfl, rfl, bindsC_pos (ps := ["text"]) (len1 fun _ => rfl)⟩, ⟨_, rfl, rfl, bindsC_pos (ps := ["text"]) (len1 fun _ => rfl)⟩, ⟨_, rfl, rfl, bindsC_pos (ps := ["text", "mark"]) (len2 fun _ _ => rfl)⟩, ⟨_, rfl, rfl, bindsC_pos (ps := ["word", "parts"]) (len2 fun _ _ => rfl)⟩, ⟨_, rfl, rfl, bindsC_pos (ps := ["text", "left"]) (len2 fun _ _ => rfl)⟩, ⟨_, rfl, rfl, bindsC_pos (ps := ["text", "left"]) (len2 fun _ _ => rfl)⟩, ⟨_, rfl, rfl, bindsC_pos (ps := ["text", "left"]) (len2 fun _ _ => rfl)⟩, ⟨_, rfl, rfl, bindsC_pos (ps := ["word", "text", "part"]) (len3 fun _ _ _ => rfl)⟩, ⟨_, rfl, rfl, bindsC_pos (ps := ["word", "part"]) (len2 fun _ _ => rfl)⟩, ⟨_, rfl, rfl, bindsC_pos (ps := ["condition"]) (len1 fun _ => rfl)⟩, ⟨_, rfl, rfl, bindsC_pos (ps := ["good"]) (len1 fun _ => rfl)⟩, ⟨_, rfl, rfl, bindsC_pos (ps := ["thing"]) (len1 fun _ => rfl)⟩, ⟨_, rfl, rfl, bindsC_pos (ps := ["condition"]) (len1 fun _ => rfl)⟩, ⟨_, rfl, rfl, bindsC_pos (ps := ["text"]) (len1 fun _ => rfl)⟩, ⟨_, rfl, rfl, bindsC_pos (ps := ["_law_script"]) (len1 fun _ => rfl)⟩, ⟨_, rfl, rfl, bindsC_pos (ps := ["_law_state", "_law_size"]) (len2 fun _ _ => rfl)⟩, ⟨_, rfl, rfl, bindsC_pos (ps := ["_law_state", "_law_some"]) (len2 fun _ _ => rfl)⟩, ⟨_, rfl, rfl, bindsC_pos (ps := ["_law_state"]) (len1 fun _ => rfl)⟩, ⟨_, rfl, rfl, bindsC_pos (ps := ["_law_value_here"]) (len1 fun _ => rfl)⟩, ⟨_, rfl, rfl, bindsC_pos (ps := ["_law_state", "_law_level", "_law_called"]) (len3 fun _ _ _ => rfl)⟩, ⟨_, rfl, rfl, bindsC_pos (ps := ["_law_state", "_law_names", "_law_level", "_law_called"]) (len4 fun _ _ _ _ => rfl)⟩, ⟨_, rfl, rfl, bindsC_pos (ps := ["_law_state", "_law_names", "_law_level", "_law_called", "_law_room"]) (len5 fun _ _ _ _ _ => rfl)⟩, ⟨_, rfl, rfl, bindsC_pos (ps := ["_law_value_here"]) (len1 fun _ => rfl)⟩, ⟨_, rfl, rfl, bindsC_pos (ps := ["_law_condition_here"]) (len1 fun _ => rfl)⟩, ⟨_, rfl, rfl, bindsC_pos (ps := ["_law_condition_here"]) (len1 fun _ => rfl)⟩, trivial⟩
    case fn => exact ⟨⟨_, rfl, PySem.W.mg_of X G a0⟩, ⟨_, rfl, PySem.W.mg_of X G a1⟩, ⟨_, rfl, PySem.W.mg_of X G a2⟩, ⟨_, rfl, PySem.W.mg_of X G a3⟩, ⟨_, rfl, PySem.W.mg_of X G a4⟩, ⟨_, rfl, PySem.W.mg_of X G a5⟩, ⟨_, rfl, PySem.W.mg_of X G a6⟩, ⟨_, rfl, PySem.W.mg_of X G a7⟩, ⟨_, rfl, PySem.W.mg_of X G a8⟩, ⟨_, rfl, PySem.W.mg_of X G a9⟩, ⟨_, rfl, PySem.W.mg_of X G a10⟩, ⟨_, rfl, PySem.W.mg_of X G a11⟩, ⟨_, rfl, PySem.W.mg_of X G a12⟩, ⟨_, rfl, PySem.W.mg_of X G a13⟩, ⟨_, rfl, PySem.W.mg_of X G a14⟩, ⟨_, rfl, PySem.W.mg_of X G a15⟩, ⟨_, rfl, PySem.W.mg_of X G a16⟩, ⟨_, rfl, PySem.W.mg_of X G a17⟩, ⟨_, rfl, PySem.W.mg_of X G a18⟩, ⟨_, rfl, PySem.W.mg_of X G a19⟩, ⟨_, rfl, PySem.W.mg_of X G a20⟩, ⟨_, rfl, PySem.W.mg_of X G a21⟩, ⟨_, rfl, PySem.W.mg_of X G a22⟩, ⟨_, rfl, PySem.W.mg_of X G a23⟩, ⟨_, rfl, PySem.W.mg_of X G a24⟩, ⟨_, rfl, PySem.W.mg_of X G a25⟩, ⟨_, rfl, PySem.W.mg_of X G a26⟩, ⟨_, rfl, PySem.W.mg_of X G a27⟩, ⟨_, rfl, PySem.W.mg_of X G a28⟩, ⟨_, rfl, PySem.W.mg_of X G a29⟩, ⟨_, rfl, PySem.W.mg_of X G a30⟩, ⟨_, rfl, PySem.W.mg_of X G a31⟩, ⟨_, rfl, PySem.W.mg_of X G a32⟩, ⟨_, rfl, PySem.W.mg_of X G a33⟩, ⟨_, rfl, PySem.W.mg_of X G a34⟩, ⟨_, rfl, PySem.W.mg_of X G a35⟩, ⟨_, rfl, PySem.W.mg_of X G a36⟩, ⟨_, rfl, PySem.W.mg_of X G a37⟩, ⟨_, rfl, PySem.W.mg_of X G a38⟩, ⟨_, rfl, PySem.W.mg_of X G a39⟩, ⟨_, rfl, PySem.W.mg_of X G a40⟩, ⟨_, rfl, PySem.W.mg_of X G a42⟩, trivial⟩
    case cls => exact ⟨⟨_, rfl, PySem.W.mg_of X G e0⟩, ⟨_, rfl, PySem.W.mg_of X G e1⟩, ⟨_, rfl, PySem.W.mg_of X G e3⟩, ⟨_, rfl, PySem.W.mg_of X G e6⟩, trivial⟩
    case init => exact trivial
    case own => exact trivial
    case ownL => exact trivial
    case ownB => exact trivial
    case xcl => exact ⟨fun Ca e => by cases e; exact ⟨yg0, yk0, ys0, yd0, ya0, yn0, yt0, ym0⟩, fun Ca e => by cases e; exact ⟨yg1, yk1, ys1, yd1, ya1, yn1, yt1, ym1⟩, fun Ca e => by cases e; exact ⟨yg2, yk2, ys2, yd2, ya2, yn2, yt2, ym2⟩, fun Ca e => by cases e; exact ⟨yg3, yk3, ys3, yd3, ya3, yn3, yt3, ym3⟩, fun Ca e => by cases e; exact ⟨yg4, yk4, ys4, yd4, ya4, yn4, yt4, ym4⟩, fun Ca e => by cases e; exact ⟨yg5, yk5, ys5, yd5, ya5, yn5, yt5, ym5⟩, fun Ca e => by cases e; exact ⟨yg6, yk6, ys6, yd6, ya6, yn6, yt6, ym6⟩, trivial⟩
    case xkit => exact trivial
    case mth => exact trivial
    case glb => exact ⟨⟨_, _, PySem.W.mg_of X G gb0, relV_int, fun H => .int _⟩, ⟨_, _, PySem.W.mg_of X G gb1, relV_int, fun H => .int _⟩, ⟨_, _, PySem.W.mg_of X G gb2, relV_str, fun H => .str _⟩, ⟨_, _, PySem.W.mg_of X G gb3, (show L2.RelV (.ref _) _ from rfl), fun H => .tup (.inr ⟨_, _, _, gt3, rfl, rfl, (show (3 : Nat) ≤ sizeLine by decide), .cons (L3.relV_int) (.cons (L3.relV_int) (.cons (L3.relV_int) (.nil)))⟩) (.cons (.int _) (.cons (.int _) (.cons (.int _) (.nil))))⟩, ⟨_, _, PySem.W.mg_of X G gb4, relV_int, fun H => .int _⟩, ⟨_, _, PySem.W.mg_of X G gb5, relV_int, fun H => .int _⟩, ⟨_, _, PySem.W.mg_of X G gb6, relV_int, fun H => .int _⟩, ⟨_, _, PySem.W.mg_of X G gb7, relV_int, fun H => .int _⟩, ⟨_, _, PySem.W.mg_of X G gb8, relV_int, fun H => .int _⟩, ⟨_, _, PySem.W.mg_of X G gb9, relV_str, fun H => .str _⟩, trivial⟩
    case blt => exact ⟨PySem.W.mg_none_of X G z0, PySem.W.mg_none_of X G z1, PySem.W.mg_none_of X G z2, PySem.W.mg_none_of X G z3, PySem.W.mg_none_of X G z4, PySem.W.mg_none_of X G z5, PySem.W.mg_none_of X G z6, PySem.W.mg_none_of X G z7, PySem.W.mg_none_of X G z8, PySem.W.mg_none_of X G z9, PySem.W.mg_none_of X G z10, PySem.W.mg_none_of X G z11, PySem.W.mg_none_of X G z12, trivial⟩
    case attr => exact trivial
    case kit_ => exact kitPlain_ok
    case kitc => exact kitPlain_c
    case exc => exact ⟨fun Ca e => by cases e; exact ⟨xa1, xb1, xc1, xd1⟩, fun Ca e => by cases e; exact ⟨xa3, xb3, xc3, xd3⟩, fun Ca e => by cases e; exact ⟨xa6, xb6, xc6, xd6⟩, trivial⟩
    case tch => exact ⟨⟨_, .inl (PySem.W.mg_of X G e0), fun i Ca e => match i, e with | 0, e => by cases e; exact xm_LoopError_0 | 1, e => by cases e; exact xm_LoopError_1 | 2, e => by cases e; exact xm_LoopError_2 | 3, e => by cases e; exact xm_LoopError_3 | 4, e => by cases e; exact xm_LoopError_4 | 5, e => by cases e; exact xm_LoopError_5 | 6, e => by cases e; exact xm_LoopError_6 | _ + 7, e => nomatch e⟩, ⟨_, .inl (PySem.W.mg_of X G e6), fun i Ca e => match i, e with | 0, e => by cases e; exact xm_NoText_0 | 1, e => by cases e; exact xm_NoText_1 | 2, e => by cases e; exact xm_NoText_2 | 3, e => by cases e; exact xm_NoText_3 | 4, e => by cases e; exact xm_NoText_4 | 5, e => by cases e; exact xm_NoText_5 | 6, e => by cases e; exact xm_NoText_6 | _ + 7, e => nomatch e⟩, trivial⟩
    case gdc => exact ⟨⟨_, PySem.W.mg_of X G gda0, wdct_of gdl0 gdk0_2 gds0 gdw0 (fun q hq => (by simp only [List.mem_cons, List.not_mem_nil, or_false] at hq; rcases hq with rfl | rfl; exact ⟨_, _, gdv0_0, (show L2.RelV (.ref _) _ from rfl), fun H => .tup (.inr ⟨_, _, _, gtd0_0, rfl, rfl, (show (2 : Nat) ≤ sizeLine by decide), .cons (L3.relV_str) (.cons (L3.relV_str) (.nil))⟩) (.cons (.str _) (.cons (.str _) (.nil)))⟩; exact ⟨_, _, gdv0_1, (show L2.RelV (.ref _) _ from rfl), fun H => .tup (.inr ⟨_, _, _, gtd0_1, rfl, rfl, (show (1 : Nat) ≤ sizeLine by decide), .cons (L3.relV_str) (.nil)⟩) (.cons (.str _) (.nil))⟩))⟩, ⟨_, PySem.W.mg_of X G gda1, wdct_of gdl1 gdk1_2 gds1 gdw1 (fun q hq => (by simp only [List.mem_cons, List.not_mem_nil, or_false] at hq; rcases hq with rfl | rfl; exact ⟨_, _, gdv1_0, L3.relV_int, fun H => .int _⟩; exact ⟨_, _, gdv1_1, L3.relV_int, fun H => .int _⟩))⟩, trivial⟩
    case lamD => exact ⟨⟨_, rfl, PySem.W.mg_of X G a41, bindsC_pos (ps := ["_law_work"]) (len1 fun _ => rfl), rfl, (show L.tab.lamS (defScope s41).names = none by decide +kernel)⟩, trivial⟩
    case lamS => exact rfl
    case lamN => decide +kernel
    case lamU => exact fun r hr p hp _ => by cases List.mem_singleton.mp hr; cases List.mem_singleton.mp hp; rfl
    case lamM => exact ⟨⟨_, _, rfl, rfl, rfl, rfl⟩, trivial⟩
  refine ⟨fd43, [⟨(defScope s42).names, cc42, PP42, ("_law_right" : Str) ++ (".<locals>." : Str) ++ ("<lambda>" : Str)⟩], fun s v => .of_eq rfl, ?_, fun base _ _ htb => L3.law_ok W htb (by rfl) rfl S⟩
  intro r hr
  simp only [List.mem_cons, List.not_mem_nil, or_false] at hr
  subst hr
  exact ⟨my42, mn42, mh42⟩
end My
/-- the head asks for a twin of the law's part and leaves it unused; under this name nothing is laid for it -/
theorem PySem.W.Fast.te16823592328248836245 : True := trivial
open PySem PySem.W PyProof.Rows
set_option maxRecDepth 100000 in
set_option maxHeartbeats 0 in
theorem PySem.Challenge.cw_loopforms_k80_conditions_as_texts_holds : PySem.Challenge.rw_loopforms_k80_conditions_as_texts.Holds := by
  w_on; o_law; k_head; (case hw => w_witness2)
  k_fill
  refine L3.walk3 (l := PySem.Challenge.rw_loopforms_k80_conditions_as_texts) (x := "_law_script") (k := 200 + 10) rfl rfl ⟨rfl, by decide, by decide⟩ (fun w h Y => PySem.W.km_in_of Y) ?F
  case F =>
    intro w mg fa h Y KX G hmg
    refine' My.all_mk KX G hmg ?e0 ?e1 ?e2 ?e3 ?e4 ?e5 ?e6 ?a0 ?l0 ?c0 ?k0 ?a1 ?l1 ?c1 ?k1 ?a2 ?l2 ?c2 ?k2 ?a3 ?l3 ?c3 ?k3 ?a4 ?l4 ?c4 ?k4 ?a5 ?l5 ?c5 ?k5 ?a6 ?l6 ?c6 ?k6 ?a7 ?l7 ?t7 ?c7 ?k7 ?a8 ?l8 ?c8 ?k8 ?a9 ?l9 ?c9 ?k9 ?a10 ?l10 ?c10 ?k10 ?a11 ?l11 ?c11 ?k11 ?a12 ?l12 ?c12 ?k12 ?a13 ?l13 ?c13 ?k13 ?a14 ?l14 ?c14 ?k14 ?a15 ?l15 ?c15 ?k15 ?a16 ?l16 ?c16 ?k16 ?a17 ?l17 ?c17 ?k17 ?a18 ?l18 ?c18 ?k18 ?a19 ?l19 ?c19 ?k19 ?a20 ?l20 ?c20 ?k20 ?a21 ?l21 ?c21 ?k21 ?a22 ?l22 ?c22 ?k22 ?a23 ?l23 ?c23 ?k23 ?a24 ?l24 ?c24 ?k24 ?a25 ?l25 ?c25 ?k25 ?a26 ?l26 ?c26 ?k26 ?a27 ?l27 ?c27 ?k27 ?a28 ?l28 ?c28 ?k28 ?a29 ?l29 ?c29 ?k29 ?a30 ?l30 ?c30 ?k30 ?a31 ?l31 ?c31 ?k31 ?a32 ?l32 ?c32 ?k32 ?a33 ?l33 ?c33 ?k33 ?a34 ?l34 ?c34 ?k34 ?a35 ?l35 ?c35 ?k35 ?a36 ?l36 ?c36 ?k36 ?a37 ?l37 ?c37 ?k37 ?a38 ?l38 ?c38 ?k38 ?a39 ?l39 ?c39 ?k39 ?a40 ?l40 ?c40 ?k40 ?a41 ?l41 ?c41 ?k41 ?a42 ?l42 ?mc42 ?mp42 ?mh42 ?mn42 ?my42 ?c42 ?k42 ?a43 ?l43 ?c43 ?k43 ?gb0 ?gb1 ?gb2 ?gb3 ?gt3 ?gb4 ?gb5 ?gb6 ?gb7 ?gb8 ?gb9 ?z0 ?z1 ?z2 ?z3 ?z4 ?z5 ?z6 ?z7 ?z8 ?z9 ?z10 ?z11 ?z12 ?xa1 ?xb1 ?xc1 ?xd1 ?xa3 ?xb3 ?xc3 ?xd3 ?xa6 ?xb6 ?xc6 ?xd6 ?xm_LoopError_0 ?xm_LoopError_1 ?xm_LoopError_2 ?xm_LoopError_3 ?xm_LoopError_4 ?xm_LoopError_5 ?xm_LoopError_6 ?xm_NoText_0 ?xm_NoText_1 ?xm_NoText_2 ?xm_NoText_3 ?xm_NoText_4 ?xm_NoText_5 ?xm_NoText_6 ?yg0 ?yk0 ?ys0 ?yd0 ?ya0 ?yn0 ?yt0 ?ym0 ?yg1 ?yk1 ?ys1 ?yd1 ?ya1 ?yn1 ?yt1 ?ym1 ?yg2 ?yk2 ?ys2 ?yd2 ?ya2 ?yn2 ?yt2 ?ym2 ?yg3 ?yk3 ?ys3 ?yd3 ?ya3 ?yn3 ?yt3 ?ym3 ?yg4 ?yk4 ?ys4 ?yd4 ?ya4 ?yn4 ?yt4 ?ym4 ?yg5 ?yk5 ?ys5 ?yd5 ?ya5 ?yn5 ?yt5 ?ym5 ?yg6 ?yk6 ?ys6 ?yd6 ?ya6 ?yn6 ?yt6 ?ym6 ?gda0 ?gdl0 ?gdk0_2 ?gds0 ?gdw0 ?gdv0_0 ?gtd0_0 ?gdv0_1 ?gtd0_1 ?gda1 ?gdl1 ?gdk1_2 ?gds1 ?gdw1 ?gdv1_0 ?gdv1_1 My.law_ok
    (case e0 => k_is)
    (case e1 => k_is)
    (case e2 => k_is)
    (case e3 => k_is)
    (case e4 => k_is)
    (case e5 => k_is)
    (case e6 => k_is)
    (case a0 => k_is)
    (case l0 => k_is)
    (case c0 => k_is)
    (case k0 => k_is)
    (case a1 => k_is)
    (case l1 => k_is)
    (case c1 => k_is)
    (case k1 => k_is)
    (case a2 => k_is)
    (case l2 => k_is)
    (case c2 => k_is)
    (case k2 => k_is)
    (case a3 => k_is)
    (case l3 => k_is)
    (case c3 => k_is)
    (case k3 => k_is)
    (case a4 => k_is)
    (case l4 => k_is)
    (case c4 => k_is)
    (case k4 => k_is)
    (case a5 => k_is)
    (case l5 => k_is)
    (case c5 => k_is)
    (case k5 => k_is)
    (case a6 => k_is)
    (case l6 => k_is)
    (case c6 => k_is)
    (case k6 => k_is)
    (case a7 => k_is)
    (case l7 => k_is)
    (case t7 => k_is)
    (case c7 => k_is)
    (case k7 => k_is)
    (case a8 => k_is)
    (case l8 => k_is)
    (case c8 => k_is)
    (case k8 => k_is)
    (case a9 => k_is)
    (case l9 => k_is)
    (case c9 => k_is)
    (case k9 => k_is)
    (case a10 => k_is)
    (case l10 => k_is)
    (case c10 => k_is)
    (case k10 => k_is)
    (case a11 => k_is)
    (case l11 => k_is)
    (case c11 => k_is)
    (case k11 => k_is)
    (case a12 => k_is)
    (case l12 => k_is)
    (case c12 => k_is)
    (case k12 => k_is)
    (case a13 => k_is)
    (case l13 => k_is)
    (case c13 => k_is)
    (case k13 => k_is)
    (case a14 => k_is)
    (case l14 => k_is)
    (case c14 => k_is)
    (case k14 => k_is)
    (case a15 => k_is)
    (case l15 => k_is)
    (case c15 => k_is)
    (case k15 => k_is)
    (case a16 => k_is)
    (case l16 => k_is)
    (case c16 => k_is)
    (case k16 => k_is)
    (case a17 => k_is)
    (case l17 => k_is)
    (case c17 => k_is)
    (case k17 => k_is)
    (case a18 => k_is)
    (case l18 => k_is)
    (case c18 => k_is)
    (case k18 => k_is)
    (case a19 => k_is)
    (case l19 => k_is)
    (case c19 => k_is)
    (case k19 => k_is)
    (case a20 => k_is)
    (case l20 => k_is)
    (case c20 => k_is)
    (case k20 => k_is)
    (case a21 => k_is)
    (case l21 => k_is)
    (case c21 => k_is)
    (case k21 => k_is)
    (case a22 => k_is)
    (case l22 => k_is)
    (case c22 => k_is)
    (case k22 => k_is)
    (case a23 => k_is)
    (case l23 => k_is)
    (case c23 => k_is)
    (case k23 => k_is)
    (case a24 => k_is)
    (case l24 => k_is)
    (case c24 => k_is)
    (case k24 => k_is)
    (case a25 => k_is)
    (case l25 => k_is)
    (case c25 => k_is)
    (case k25 => k_is)
    (case a26 => k_is)
    (case l26 => k_is)
    (case c26 => k_is)
    (case k26 => k_is)
    (case a27 => k_is)
    (case l27 => k_is)
    (case c27 => k_is)
    (case k27 => k_is)
    (case a28 => k_is)
    (case l28 => k_is)
    (case c28 => k_is)
    (case k28 => k_is)
    (case a29 => k_is)
    (case l29 => k_is)
    (case c29 => k_is)
    (case k29 => k_is)
    (case a30 => k_is)
    (case l30 => k_is)
    (case c30 => k_is)
    (case k30 => k_is)
    (case a31 => k_is)
    (case l31 => k_is)
    (case c31 => k_is)
    (case k31 => k_is)
    (case a32 => k_is)
    (case l32 => k_is)
    (case c32 => k_is)
    (case k32 => k_is)
    (case a33 => k_is)
    (case l33 => k_is)
    (case c33 => k_is)
    (case k33 => k_is)
    (case a34 => k_is)
    (case l34 => k_is)
    (case c34 => k_is)
    (case k34 => k_is)
    (case a35 => k_is)
    (case l35 => k_is)
    (case c35 => k_is)
    (case k35 => k_is)
    (case a36 => k_is)
    (case l36 => k_is)
    (case c36 => k_is)
    (case k36 => k_is)
    (case a37 => k_is)
    (case l37 => k_is)
    (case c37 => k_is)
    (case k37 => k_is)
    (case a38 => k_is)
    (case l38 => k_is)
    (case c38 => k_is)
    (case k38 => k_is)
    (case a39 => k_is)
    (case l39 => k_is)
    (case c39 => k_is)
    (case k39 => k_is)
    (case a40 => k_is)
    (case l40 => k_is)
    (case c40 => k_is)
    (case k40 => k_is)
    (case a41 => k_is)
    (case l41 => k_is)
    (case c41 => k_is)
    (case k41 => k_is)
    (case a42 => k_is)
    (case l42 => k_is)
    (case mc42 => k_is)
    (case mp42 => rfl)
    (case mh42 => kernel_rfl)
    (case mn42 => kernel_rfl)
    (case my42 => exact PySem.W.km_tabs_of Y _ (by k_mem))
    (case c42 => k_is)
    (case k42 => k_is)
    (case a43 => k_is)
    (case l43 => k_is)
    (case c43 => k_is)
    (case k43 => k_is)
    (case gb0 => k_is)
    (case gb1 => k_is)
    (case gb2 => k_is)
    (case gb3 => k_is)
    (case gt3 => k_is)
    (case gb4 => k_is)
    (case gb5 => k_is)
    (case gb6 => k_is)
    (case gb7 => k_is)
    (case gb8 => k_is)
    (case gb9 => k_is)
    (case z0 => k_is)
    (case z1 => k_is)
    (case z2 => k_is)
    (case z3 => k_is)
    (case z4 => k_is)
    (case z5 => k_is)
    (case z6 => k_is)
    (case z7 => k_is)
    (case z8 => k_is)
    (case z9 => k_is)
    (case z10 => k_is)
    (case z11 => k_is)
    (case z12 => k_is)
    (case xa1 => k_exc)
    (case xb1 => k_is)
    (case xc1 => k_is)
    (case xd1 => k_is)
    (case xa3 => k_exc)
    (case xb3 => k_is)
    (case xc3 => k_is)
    (case xd3 => k_is)
    (case xa6 => k_exc)
    (case xb6 => k_is)
    (case xc6 => k_is)
    (case xd6 => k_is)
    (case xm_LoopError_0 => kts_exm)
    (case xm_LoopError_1 => kts_exm)
    (case xm_LoopError_2 => kts_exm)
    (case xm_LoopError_3 => kts_exm)
    (case xm_LoopError_4 => kts_exm)
    (case xm_LoopError_5 => kts_exm)
    (case xm_LoopError_6 => kts_exm)
    (case xm_NoText_0 => kts_exm)
    (case xm_NoText_1 => kts_exm)
    (case xm_NoText_2 => kts_exm)
    (case xm_NoText_3 => kts_exm)
    (case xm_NoText_4 => kts_exm)
    (case xm_NoText_5 => kts_exm)
    (case xm_NoText_6 => kts_exm)
    (case yg0 => k_is)
    (case yk0 => k_is)
    (case ys0 => k_is)
    (case yd0 => k_is)
    (case ya0 => k_is)
    (case yn0 => k_is)
    (case yt0 => k_is)
    (case ym0 => k_is)
    (case yg1 => k_is)
    (case yk1 => k_is)
    (case ys1 => k_is)
    (case yd1 => k_is)
    (case ya1 => k_is)
    (case yn1 => k_is)
    (case yt1 => k_is)
    (case ym1 => k_is)
    (case yg2 => k_is)
    (case yk2 => k_is)
    (case ys2 => k_is)
    (case yd2 => k_is)
    (case ya2 => k_is)
    (case yn2 => k_is)
    (case yt2 => k_is)
    (case ym2 => k_is)
    (case yg3 => k_is)
    (case yk3 => k_is)
    (case ys3 => k_is)
    (case yd3 => k_is)
    (case ya3 => k_is)
    (case yn3 => k_is)
    (case yt3 => k_is)
    (case ym3 => k_is)
    (case yg4 => k_is)
    (case yk4 => k_is)
    (case ys4 => k_is)
    (case yd4 => k_is)
    (case ya4 => k_is)
    (case yn4 => k_is)
    (case yt4 => k_is)
    (case ym4 => k_is)
    (case yg5 => k_is)
    (case yk5 => k_is)
    (case ys5 => k_is)
    (case yd5 => k_is)
    (case ya5 => k_is)
    (case yn5 => k_is)
    (case yt5 => k_is)
    (case ym5 => k_is)
    (case yg6 => k_is)
    (case yk6 => k_is)
    (case ys6 => k_is)
    (case yd6 => k_is)
    (case ya6 => k_is)
    (case yn6 => k_is)
    (case yt6 => k_is)
    (case ym6 => k_is)
    (case gda0 => k_is)
    (case gdl0 => k_is)
    (case gdk0_2 => exact ⟨⟨_, _, rfl, rfl⟩, ⟨_, _, rfl, rfl⟩, trivial⟩)
    (case gds0 => rfl)
    (case gdw0 => kernel_rfl)
    (case gdv0_0 => k_is)
    (case gtd0_0 => k_is)
    (case gdv0_1 => k_is)
    (case gtd0_1 => k_is)
    (case gda1 => k_is)
    (case gdl1 => k_is)
    (case gdk1_2 => exact ⟨⟨_, _, rfl, rfl⟩, ⟨_, _, rfl, rfl⟩, trivial⟩)
    (case gds1 => rfl)
    (case gdw1 => kernel_rfl)
    (case gdv1_0 => k_is)
    (case gdv1_1 => k_is)
#print axioms PySem.Challenge.cw_loopforms_k80_conditions_as_texts_holds
