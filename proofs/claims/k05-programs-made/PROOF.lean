import PyProof.Rows.All
import Wide.All
import OpenK.AllK
import Wide.FinOn
import KE.RegKIsAll
import HandS.Base
import HandS.Call
import HandS.List
import HandS.Comp
import HandS.Exc
import HandS.ExcOwn
import HandS.TryOnly
import HandS.CallSlots
import HandS.Dict
import HandS.Iter
import HandS.Text
import HandS.Deep
import HandS.Words
import HandS.WordsExc
import KE.KeyNested
import KE.KDictKeyed
import KE.KDictDisplayH
import HandS.TupAny
import HandS.Small
import HandS.Ends
import HandS.EndBits
import HandS.Defaults
import HandS.IsInst
import HandS.CallRecv
import HandS.ExcInit
import HandS.TupMul
import HandS.Style
import PyProof.ReprRoads
import HandS.More
import PyProof.InstNe
import KE.KDictZip
import KE.GoesZip
import KE.GoesMore
import HandS.GenList
import HandS.MapJoin
import HandS.RaiseMore
import KE.GoesEnum
import HandS.Rev
import HandS.Strs
import HandS.SetFor
import HandS.ExcIs
import PyProof.EqAt
import PyProof.MeetsIn
import PyProof.P3In
import PyProof.NeKinds
import PyProof.ReprLen
import PySem.Challenge.RW_loopforms_k05_programs_made
set_option Elab.async false
set_option autoImplicit false
set_option linter.all false
set_option maxRecDepth 100000
/-! L3: a clean layer over HandS. Data are trees (tuples have no address), only what changes has an address. -/
namespace L3
open PySem L2

/-- data: tuples are trees; lists, dicts, instances, defs are at addresses -/
inductive D where
  | non | bl (b : Bool) | int (i : Int) | str (x : Str) | ty (n : String) | tup (xs : List D) | rls (xs : List D) | ref (a : Addr)

/-- what stands at an address: a list, a dict, an instance (of the class numbered c). (D.rls: a list that is only read: the script) -/
inductive CO where
  | lst (xs : List D)
  | dic (kvs : List (Key × D))
  | dtk (kvs : List (NestedKey × D))
  | ins (c : Nat) (fs : List (Str × D))

abbrev CH := Addr → Option CO
def cup (C : CH) (a : Addr) (o : CO) : CH := fun b => if b = a then some o else C b
theorem cup_same {C : CH} {a : Addr} {o : CO} : cup C a o a = some o := by unfold cup; rw [if_pos rfl]
theorem cup_ne {C : CH} {a b : Addr} {o : CO} (h : b ≠ a) : cup C a o b = C b := by unfold cup; rw [if_neg h]
theorem cup_cup {C : CH} {a : Addr} {o u : CO} : cup (cup C a o) a u = cup C a u := by
  funext b; unfold cup; split <;> rfl

/-- an exception: its class's number, its own attributes -/
structure Exn where
  cls : Nat
  fs : List (Str × D) := []

abbrev Env3 := List (Option D)
abbrev Kv := D → CH → Prop
abbrev Kx := Exn → CH → Prop
abbrev Kxs := Exn → Env3 → CH → Prop
abbrev CTE := Env3 → CH → Kv → Prop
abbrev CTT := Env3 → CH → (Bool → CH → Prop) → Prop
abbrev CTA := Env3 → CH → (List D → CH → Prop) → Prop

/-- the law's classes, its program, its world -/
structure ClsT where
  f : Nat → Option Addr
  P : Program
  w : World
instance : CoeFun ClsT fun _ => Nat → Option Addr := ⟨ClsT.f⟩
/-! data as the key of a dict -/
mutual
def keyT : D → Option NestedKey
  | .non => some .none
  | .bl b => some (.num (if b = true then 1 else 0))
  | .int i => some (.num i)
  | .str x => some (.text x)
  | .tup ds => match keysT ds with
    | some ks => some (.tup ks)
    | none => none
  | _ => none
def keysT : List D → Option (List NestedKey)
  | [] => some []
  | d :: ds => match keyT d, keysT ds with
    | some k, some ks => some (k :: ks)
    | _, _ => none
end
/-- a dict whose keys are tuples stands at a: its entries (the keys' own objects aside) -/
def DRaw (P : Program) (w : World) (h : Heap) (a : Addr) (xs : List (NestedKey × Addr × Value)) : Prop := xs.length ≤ sizeLine ∧ (a == sysModules) = false ∧
  ∃ o es ep, h.get? a = some o ∧ o.ExactDict ∧ o.data = .dict es ep ∧ es.toList = xs.map (entryOfKey (nestedKind P w)) ∧ (xs.map (·.1)).Nodup
abbrev DTO (cl : ClsT) (a : Addr) (xs : List (NestedKey × Addr × Value)) : HO := .ext fun h => DRaw cl.P cl.w h a xs
/-- a list that nobody writes: known to the object, or of the module -/
def RlS (K : PySem.W.Frag) (H : Hp) (a : Addr) (xs : List V) : Prop := (∃ o, H a = some (.frz o (.lst xs))) ∨
  ∃ (o : Obj) (its : Array Value) (n : Nat), K.lookup a = some o ∧ o.cls = .type "list" ∧ o.dict = none ∧ o.data = .seq its n ∧ its.size ≤ sizeLine ∧ Vals xs its.toList
section
variable (K : PySem.W.Frag) (cl : ClsT)
mutual
inductive Rep (H : Hp) : D → V → Prop
  | non : Rep H .non .non
  | bl (b : Bool) : Rep H (.bl b) (.bl b)
  | int (i : Int) : Rep H (.int i) (.int i)
  | str (x : Str) : Rep H (.str x) (.str x)
  | ty (n : String) : Rep H (.ty n) (.ty n)
  | ref (a : Addr) : Rep H (.ref a) (.ref a)
  | tup {a : Addr} {vs : List V} {ds : List D} : SqT K H a vs → RepL H ds vs → Rep H (.tup ds) (.ref a)
  | rls {a : Addr} {vs : List V} {ds : List D} : RlS K H a vs → RepL H ds vs → Rep H (.rls ds) (.ref a)
inductive RepL (H : Hp) : List D → List V → Prop
  | nil : RepL H [] []
  | cons {d : D} {ds : List D} {v : V} {vs : List V} : Rep H d v → RepL H ds vs → RepL H (d :: ds) (v :: vs)
end
/-- slots -/
inductive RepS (H : Hp) : Env3 → St → Prop
  | nil : RepS H [] []
  | no {σc : Env3} {σ : St} : RepS H σc σ → RepS H (none :: σc) (none :: σ)
  | so {d : D} {v : V} {σc : Env3} {σ : St} : Rep K H d v → RepS H σc σ → RepS H (some d :: σc) (some v :: σ)
/-- pairs by a key -/
inductive RepF {κ : Type} (H : Hp) : List (κ × D) → List (κ × V) → Prop
  | nil : RepF H [] []
  | cons {k : κ} {d : D} {v : V} {ds : List (κ × D)} {vs : List (κ × V)} : Rep K H d v → RepF H ds vs → RepF H ((k, d) :: ds) ((k, v) :: vs)
/-- the entries of such a dict: key, the key's object, value -/
inductive RepK (H : Hp) : List (NestedKey × D) → List (NestedKey × Addr × Value) → Prop
  | nil : RepK H [] []
  | cons {k : NestedKey} {t d : D} {b : Addr} {v : V} {u : Value} {ds : List (NestedKey × D)} {xs : List (NestedKey × Addr × Value)} : keyT t = some k → k.depth ≤ 8 → Rep K H t (.ref b) → Rep K H d v → RelV v u → RepK H ds xs → RepK H ((k, d) :: ds) ((k, b, u) :: xs)
def OkO (H : Hp) (a : Addr) : CO → Prop
  | .lst ds => ∃ vs, H a = some (.lst vs) ∧ RepL K H ds vs
  | .dic ds => ∃ vs, H a = some (.dK vs) ∧ RepF K H ds vs
  | .dtk ds => ∃ xs, H a = some (DTO cl a xs) ∧ RepK K H ds xs
  | .ins c ds => ∃ Ca dx vs, cl c = some Ca ∧ H a = some (.ins Ca dx vs) ∧ RepF K H ds vs
def Rel (H : Hp) (C : CH) : Prop := ∀ a o, C a = some o → OkO K cl H a o
end
/-- what the clean heap does not speak of stands as it was -/
def Keep (H : Hp) (C : CH) (H' : Hp) (C' : CH) : Prop := ∀ b o, H b = some o → C b = none → H' b = some o ∧ C' b = none
theorem Keep.refl {H : Hp} {C : CH} : Keep H C H C := fun _ _ h n => ⟨h, n⟩
theorem Keep.trans {H H1 H2 : Hp} {C C1 C2 : CH} (k : Keep H C H1 C1) (l : Keep H1 C1 H2 C2) : Keep H C H2 C2 := fun b o h n =>
  let ⟨h1, n1⟩ := k b o h n
  l b o h1 n1

section
variable {K : PySem.W.Frag} {cl : ClsT} {H H' H1 : Hp} {C C' C1 : CH}
theorem RepL.length : ∀ {ds : List D} {vs : List V}, RepL K H ds vs → ds.length = vs.length
  | _, _, .nil => rfl
  | _, _, .cons _ t => congrArg (· + 1) t.length
theorem RepL.get : ∀ {ds : List D} {vs : List V} {i : Nat} {d : D}, RepL K H ds vs → ds[i]? = some d → ∃ v, vs[i]? = some v ∧ Rep K H d v
  | _, _, _, _, .nil, e => by simp at e
  | _, _, 0, _, .cons r _, e => by simp at e; subst e; exact ⟨_, rfl, r⟩
  | _, _, i + 1, d, .cons _ t, e => by
    obtain ⟨u, h1, h2⟩ := RepL.get (i := i) (d := d) t (by simpa using e)
    exact ⟨u, by simpa using h1, h2⟩
theorem RepL.append : ∀ {ds es : List D} {vs us : List V}, RepL K H ds vs → RepL K H es us → RepL K H (ds ++ es) (vs ++ us)
  | _, _, _, _, .nil, t => t
  | _, _, _, _, .cons r s, t => .cons r (RepL.append s t)
theorem RepL.set {d : D} {v : V} (r : Rep K H d v) : ∀ {ds : List D} {vs : List V} (i : Nat), RepL K H ds vs → RepL K H (ds.set i d) (vs.set i v)
  | _, _, _, .nil => .nil
  | _, _, 0, .cons _ t => .cons r t
  | _, _, i + 1, .cons q t => .cons q (RepL.set r i t)
theorem RepL.take : ∀ {ds : List D} {vs : List V} (n : Nat), RepL K H ds vs → RepL K H (ds.take n) (vs.take n)
  | _, _, 0, _ => .nil
  | _, _, _ + 1, .nil => .nil
  | _, _, n + 1, .cons r t => .cons r (RepL.take n t)
theorem RepL.drop : ∀ {ds : List D} {vs : List V} (n : Nat), RepL K H ds vs → RepL K H (ds.drop n) (vs.drop n)
  | _, _, 0, r => r
  | _, _, _ + 1, .nil => .nil
  | _, _, n + 1, .cons _ t => RepL.drop n t
theorem RepL.dropLast : ∀ {ds : List D} {vs : List V}, RepL K H ds vs → RepL K H ds.dropLast vs.dropLast
  | _, _, .nil => .nil
  | _, _, .cons _ .nil => .nil
  | _, _, .cons r (.cons q t) => .cons r (RepL.dropLast (.cons q t))
theorem RepL.eraseIdx : ∀ {ds : List D} {vs : List V} (i : Nat), RepL K H ds vs → RepL K H (ds.eraseIdx i) (vs.eraseIdx i)
  | _, _, _, .nil => .nil
  | _, _, 0, .cons _ t => t
  | _, _, i + 1, .cons r t => .cons r (RepL.eraseIdx i t)
theorem RepL.reverse {ds : List D} {vs : List V} (h : RepL K H ds vs) : RepL K H ds.reverse vs.reverse := by
  have go : ∀ {ds es : List D} {vs us : List V}, RepL K H ds vs → RepL K H es us → RepL K H (ds.reverseAux es) (vs.reverseAux us) := by
    intro ds
    induction ds with
    | nil => intro es vs us h t; cases h; exact t
    | cons d ds ih =>
      intro es vs us h t
      cases h with
      | cons r s => exact (show RepL K H (List.reverseAux _ (_ :: _)) (List.reverseAux _ (_ :: _)) from ih s (.cons r t))
  exact go h .nil
theorem RepS.length : ∀ {σc : Env3} {σ : St}, RepS K H σc σ → σc.length = σ.length
  | _, _, .nil => rfl
  | _, _, .no t => congrArg (· + 1) t.length
  | _, _, .so _ t => congrArg (· + 1) t.length
theorem RepS.get : ∀ {σc : Env3} {σ : St} {i : Nat} {d : D}, RepS K H σc σ → σc[i]? = some (some d) → ∃ v, σ[i]? = some (some v) ∧ Rep K H d v
  | _, _, _, _, .nil, e => by simp at e
  | _, _, 0, _, .no _, e => by simp at e
  | _, _, 0, _, .so r _, e => by simp at e; subst e; exact ⟨_, rfl, r⟩
  | _, _, i + 1, d, .no t, e => by
    obtain ⟨u, h1, h2⟩ := RepS.get (i := i) (d := d) t (by simpa using e)
    exact ⟨u, by simpa using h1, h2⟩
  | _, _, i + 1, d, .so _ t, e => by
    obtain ⟨u, h1, h2⟩ := RepS.get (i := i) (d := d) t (by simpa using e)
    exact ⟨u, by simpa using h1, h2⟩
theorem RepS.set {d : D} {v : V} (r : Rep K H d v) : ∀ {σc : Env3} {σ : St} (i : Nat), RepS K H σc σ → RepS K H (σc.set i (some d)) (σ.set i (some v))
  | _, _, _, .nil => .nil
  | _, _, 0, .no t => .so r t
  | _, _, 0, .so _ t => .so r t
  | _, _, i + 1, .no t => .no (RepS.set r i t)
  | _, _, i + 1, .so q t => .so q (RepS.set r i t)
theorem RepS.wipe1 : ∀ {σc : Env3} {σ : St} (i : Nat), RepS K H σc σ → RepS K H (σc.set i none) (σ.set i none)
  | _, _, _, .nil => .nil
  | _, _, 0, .no t => .no t
  | _, _, 0, .so _ t => .no t
  | _, _, i + 1, .no t => .no (RepS.wipe1 i t)
  | _, _, i + 1, .so q t => .so q (RepS.wipe1 i t)
theorem RepF.lookup {ds : List (Str × D)} {vs : List (Str × V)} {f : Str} {d : D} (h : RepF K H ds vs) (e : ds.lookup f = some d) : ∃ v, vs.lookup f = some v ∧ Rep K H d v := by
  induction h with
  | nil => simp at e
  | @cons k d' v' ds' vs' r t ih =>
    rw [List.lookup_cons] at e ⊢
    cases hb : f == k with
    | true => rw [hb] at e; simp at e; subst e; exact ⟨v', rfl, r⟩
    | false => rw [hb] at e; exact ih e
theorem RepF.lookup_none {ds : List (Str × D)} {vs : List (Str × V)} {f : Str} (h : RepF K H ds vs) (e : ds.lookup f = none) : vs.lookup f = none := by
  induction h with
  | nil => rfl
  | @cons k d' v' ds' vs' r t ih =>
    rw [List.lookup_cons] at e ⊢
    cases hb : f == k with
    | true => rw [hb] at e; simp at e
    | false => rw [hb] at e; exact ih e
theorem RepF.length {κ : Type} : ∀ {ds : List (κ × D)} {vs : List (κ × V)}, RepF K H ds vs → ds.length = vs.length
  | _, _, .nil => rfl
  | _, _, .cons _ t => congrArg (· + 1) t.length

theorem Rel.noTup (R : Rel K cl H C) {a : Addr} {xs : List V} (h : Rd H a (.tup xs)) : C a = none := by
  cases e : C a with
  | none => rfl
  | some o =>
    have q := R a o e
    cases o with
    | lst ds =>
      obtain ⟨vs, hl, _⟩ := q
      rcases h with h | ⟨u, h⟩ <;> (rw [hl] at h; cases h)
    | dic ds =>
      obtain ⟨vs, hl, _⟩ := q
      rcases h with h | ⟨u, h⟩ <;> (rw [hl] at h; cases h)
    | dtk ds =>
      obtain ⟨vs, hl, _⟩ := q
      rcases h with h | ⟨u, h⟩ <;> (rw [hl] at h; cases h)
    | ins c ds =>
      obtain ⟨_, _, vs, _, hl, _⟩ := q
      rcases h with h | ⟨u, h⟩ <;> (rw [hl] at h; cases h)
theorem Rel.noFrz (R : Rel K cl H C) {a : Addr} {o : Obj} {u : HO} (h : H a = some (.frz o u)) : C a = none := by
  cases e : C a with
  | none => rfl
  | some w =>
    have q := R a w e
    cases w with
    | lst ds => obtain ⟨vs, hl, _⟩ := q; rw [hl] at h; cases h
    | dic ds => obtain ⟨vs, hl, _⟩ := q; rw [hl] at h; cases h
    | dtk ds => obtain ⟨vs, hl, _⟩ := q; rw [hl] at h; cases h
    | ins c ds => obtain ⟨_, _, vs, _, hl, _⟩ := q; rw [hl] at h; cases h
theorem RlS.keep (R : Rel K cl H C) (k : Keep H C H' C') {a : Addr} {xs : List V} (h : RlS K H a xs) : RlS K H' a xs := by
  rcases h with ⟨o, h⟩ | h
  · exact .inl ⟨o, (k _ _ h (R.noFrz h)).1⟩
  · exact .inr h
theorem RlS.sq {a : Addr} {xs : List V} (h : RlS K H a xs) : SqL K H a xs := by
  rcases h with ⟨o, h⟩ | h
  · exact .inl (.inr ⟨o, h⟩)
  · exact .inr h
theorem SqT.keep (R : Rel K cl H C) (k : Keep H C H' C') {a : Addr} {xs : List V} (h : SqT K H a xs) : SqT K H' a xs := by
  rcases h with h | h
  · have n := R.noTup h
    rcases h with h | ⟨o, h⟩
    · exact .inl (.inl (k _ _ h n).1)
    · exact .inl (.inr ⟨o, (k _ _ h n).1⟩)
  · exact .inr h
mutual
theorem Rep.keep (R : Rel K cl H C) (k : Keep H C H' C') : ∀ {d : D} {v : V}, Rep K H d v → Rep K H' d v
  | _, _, .non => .non
  | _, _, .bl b => .bl b
  | _, _, .int b => .int b
  | _, _, .str b => .str b
  | _, _, .ty b => .ty b
  | _, _, .ref b => .ref b
  | _, _, .tup s t => .tup (SqT.keep R k s) (RepL.keep R k t)
  | _, _, .rls s t => .rls (RlS.keep R k s) (RepL.keep R k t)
theorem RepL.keep (R : Rel K cl H C) (k : Keep H C H' C') : ∀ {d : List D} {v : List V}, RepL K H d v → RepL K H' d v
  | _, _, .nil => .nil
  | _, _, .cons r t => .cons (Rep.keep R k r) (RepL.keep R k t)
end
theorem RepS.keep (R : Rel K cl H C) (k : Keep H C H' C') : ∀ {d : Env3} {v : St}, RepS K H d v → RepS K H' d v
  | _, _, .nil => .nil
  | _, _, .no t => .no (RepS.keep R k t)
  | _, _, .so r t => .so (r.keep R k) (RepS.keep R k t)
theorem RepF.keep {κ : Type} (R : Rel K cl H C) (k : Keep H C H' C') : ∀ {d : List (κ × D)} {v : List (κ × V)}, RepF K H d v → RepF K H' d v
  | _, _, .nil => .nil
  | _, _, .cons r t => .cons (r.keep R k) (RepF.keep R k t)

theorem RepK.keep (R : Rel K cl H C) (k : Keep H C H' C') : ∀ {d : List (NestedKey × D)} {v : List (NestedKey × Addr × Value)}, RepK K H d v → RepK K H' d v
  | _, _, .nil => .nil
  | _, _, .cons e z t r q rs => .cons e z (t.keep R k) (r.keep R k) q (RepK.keep R k rs)
theorem RepK.length : ∀ {ds : List (NestedKey × D)} {xs : List (NestedKey × Addr × Value)}, RepK K H ds xs → ds.length = xs.length
  | _, _, .nil => rfl
  | _, _, .cons _ _ _ _ _ t => congrArg (· + 1) t.length

/-- the clean heap is a part of another one -/
def Sub (C C' : CH) : Prop := ∀ a o, C a = some o → C' a = some o
theorem Sub.refl {C : CH} : Sub C C := fun _ _ h => h
theorem Sub.trans {C C1 C2 : CH} (a : Sub C C1) (b : Sub C1 C2) : Sub C C2 := fun c o h => b c o (a c o h)
theorem Sub.new {C : CH} {p : Addr} {o : CO} (h : C p = none) : Sub C (cup C p o) := fun a u e => by
  rw [cup_ne (by intro z; rw [z, h] at e; cases e)]; exact e
theorem Rel.sub (R : Rel K cl H C) (s : Sub C' C) : Rel K cl H C' := fun a o e => R a o (s a o e)
theorem Keep.sub (k : Keep H C H' C1) (s : Sub C' C1) : Keep H C H' C' := fun b o h n =>
  let ⟨h1, n1⟩ := k b o h n
  ⟨h1, by
    cases e : C' b with
    | none => rfl
    | some u => rw [s b u e] at n1; cases n1⟩

/-- a new object in H that the clean heap does not know (a tuple, the dict of an instance ..) -/
theorem free_of (R : Rel K cl H C) {p : Addr} (h : H p = none) : C p = none := by
  cases e : C p with
  | none => rfl
  | some o =>
    have q := R p o e
    cases o with
    | lst ds => obtain ⟨vs, hl, _⟩ := q; rw [h] at hl; cases hl
    | dic ds => obtain ⟨vs, hl, _⟩ := q; rw [h] at hl; cases hl
    | dtk ds => obtain ⟨vs, hl, _⟩ := q; rw [h] at hl; cases hl
    | ins c ds => obtain ⟨_, _, vs, _, hl, _⟩ := q; rw [h] at hl; cases hl
end
end L3

namespace L3
open PySem L2

structure EndsC where
  nx : Env3 → CH → Prop
  rt : Kv
  bk : Env3 → CH → Prop := fun _ _ => False
  ct : Env3 → CH → Prop := fun _ _ => False
abbrev CTS := EndsC → Env3 → CH → Prop

structure S3 (K : PySem.W.Frag) (cl : ClsT) (H0 : Hp) (C0 : CH) (σ : St) (H : Hp) (σc : Env3) (C : CH) : Prop where
  s : RepS K H σc σ
  r : Rel K cl H C
  f : Keep H0 C0 H C
theorem S3.step {K : PySem.W.Frag} {cl : ClsT} {H0 H H' : Hp} {C0 C C' : CH} {σ : St} {σc : Env3} (S : S3 K cl H0 C0 σ H σc C) (k : Keep H C H' C') (r : Rel K cl H' C') : S3 K cl H0 C0 σ H' σc C' :=
  ⟨S.s.keep S.r k, r, S.f.trans k⟩

section
variable (K : PySem.W.Frag) (cl : ClsT) (H0 : Hp) (C0 : CH)
def EndE (H : Hp) (C : CH) (Qc : Kv) (Q : VK) : Prop := ∀ d C' v H', Qc d C' → Rep K H' d v → Rel K cl H' C' → Keep H C H' C' → Q v H'
def EndT (H : Hp) (C : CH) (Qc : Bool → CH → Prop) (Q : Bool → Hp → Prop) : Prop := ∀ b C' H', Qc b C' → Rel K cl H' C' → Keep H C H' C' → Q b H'
def EndA (H : Hp) (C : CH) (Qc : List D → CH → Prop) (Q : List V → Hp → Prop) : Prop := ∀ ds C' vs H', Qc ds C' → RepL K H' ds vs → Rel K cl H' C' → Keep H C H' C' → Q vs H'
def EndN (H : Hp) (C : CH) (Qc : Env3 → CH → Prop) (Q : St → Hp → Prop) : Prop := ∀ σc C' σ H', Qc σc C' → RepS K H' σc σ → Rel K cl H' C' → Keep H C H' C' → Q σ H'
structure EndS (H : Hp) (C : CH) (Dc : EndsC) (D : Ends) : Prop where
  nx : EndN K cl H C Dc.nx D.nx
  rt : EndE K cl H C Dc.rt D.rt
  bk : EndN K cl H C Dc.bk D.bk
  ct : EndN K cl H C Dc.ct D.ct
def tE (c : CTE) : TE := fun σ H Q => ∃ σc C Qc, S3 K cl H0 C0 σ H σc C ∧ c σc C Qc ∧ EndE K cl H C Qc Q
def tT (c : CTT) : TT := fun σ H Q => ∃ σc C Qc, S3 K cl H0 C0 σ H σc C ∧ c σc C Qc ∧ EndT K cl H C Qc Q
def tA (c : CTA) : TA := fun σ H Q => ∃ σc C Qc, S3 K cl H0 C0 σ H σc C ∧ c σc C Qc ∧ EndA K cl H C Qc Q
def tS (c : CTS) : TS := fun D σ H => ∃ σc C Dc, S3 K cl H0 C0 σ H σc C ∧ c Dc σc C ∧ EndS K cl H C Dc D
def XRel (H : Hp) (x : Exn) (cls : Value) (d : Option Addr) : Prop := ∃ Ca, cl x.cls = some Ca ∧ cls = .ref Ca ∧ ((d = none ∧ x.fs = []) ∨ ∃ a fs, x.fs ≠ [] ∧ d = some a ∧ H a = some (.xd fs) ∧ RepF K H x.fs fs)
/-- the wish of a context -/
def WC (ex : Kxs) : WX := fun cls d σ H => ∃ x σc C, ex x σc C ∧ XRel K cl H x cls d ∧ S3 K cl H0 C0 σ H σc C
end
section
variable {K : PySem.W.Frag} {cl : ClsT} {H H1 H2 : Hp} {C C1 C2 : CH}
theorem EndE.from_ {Qc : Kv} {Q : VK} (h : EndE K cl H C Qc Q) (k : Keep H C H1 C1) : EndE K cl H1 C1 Qc Q := fun d C' v H' q r R k' => h d C' v H' q r R (k.trans k')
theorem EndN.from_ {Qc : Env3 → CH → Prop} {Q : St → Hp → Prop} (h : EndN K cl H C Qc Q) (k : Keep H C H1 C1) : EndN K cl H1 C1 Qc Q := fun d C' v H' q r R k' => h d C' v H' q r R (k.trans k')
theorem EndS.from_ {Dc : EndsC} {D : Ends} (h : EndS K cl H C Dc D) (k : Keep H C H1 C1) : EndS K cl H1 C1 Dc D := ⟨h.nx.from_ k, h.rt.from_ k, h.bk.from_ k, h.ct.from_ k⟩
theorem EndE.now {Qc : Kv} {Q : VK} {d : D} {v : V} (h : EndE K cl H C Qc Q) (q : Qc d C) (r : Rep K H d v) (R : Rel K cl H C) : Q v H := h d C v H q r R Keep.refl
end

theorem _root_.L2.PE.imp {X : Cx} {e : Expr} {t t' : TE} (h : PE X e t) (i : ∀ σ H Q, t' σ H Q → t σ H Q) : PE X e t' := ⟨fun pins s σ H Q I q => h.run pins s σ H Q I (i _ _ _ q)⟩
theorem _root_.L2.PT.imp {X : Cx} {e : Expr} {t t' : TT} (h : PT X e t) (i : ∀ σ H Q, t' σ H Q → t σ H Q) : PT X e t' := ⟨fun pins s σ H Q I q => h.run pins s σ H Q I (i _ _ _ q)⟩
theorem _root_.L2.PW.imp {X : Cx} {e : Expr} {t t' : TT} (h : PW X e t) (i : ∀ σ H Q, t' σ H Q → t σ H Q) : PW X e t' := ⟨fun wh pins s σ H Q I q => h.run wh pins s σ H Q I (i _ _ _ q)⟩
theorem _root_.L2.PA.imp {X : Cx} {es : List Expr} {t t' : TA} (h : PA X es t) (i : ∀ σ H Q, t' σ H Q → t σ H Q) : PA X es t' := ⟨fun p pins s σ H Q I q => h.run p pins s σ H Q I (i _ _ _ q)⟩
theorem _root_.L2.PS.imp {X : Cx} {st : Stmt} {t t' : TS} (h : PS X st t) (i : ∀ D σ H, t' D σ H → t D σ H) : PS X st t' := ⟨fun pins s σ H D I q => h.run pins s σ H D I (i _ _ _ q)⟩
theorem _root_.L2.PSs.imp {X : Cx} {st : List Stmt} {t t' : TS} (h : PSs X st t) (i : ∀ D σ H, t' D σ H → t D σ H) : PSs X st t' := ⟨fun pins s σ H D I q => h.run pins s σ H D I (i _ _ _ q)⟩

section
variable (X : Cx) (cl : ClsT) (H0 : Hp) (C0 : CH)
def CPE (e : Expr) (c : CTE) : Prop := PE X e (tE X.K cl H0 C0 c)
def CPT (e : Expr) (c : CTT) : Prop := PT X e (tT X.K cl H0 C0 c)
def CPW (e : Expr) (c : CTT) : Prop := PW X e (tT X.K cl H0 C0 c)
def CPA (e : List Expr) (c : CTA) : Prop := PA X e (tA X.K cl H0 C0 c)
def CPS (e : Stmt) (c : CTS) : Prop := PS X e (tS X.K cl H0 C0 c)
def CPSs (e : List Stmt) (c : CTS) : Prop := PSs X e (tS X.K cl H0 C0 c)
end

/-! ### expressions -/
def cVar (i : Nat) : CTE := fun σ C Q => ∃ d, σ[i]? = some (some d) ∧ Q d C
def cC (d : D) : CTE := fun _ C Q => Q d C
abbrev O2 := D → D → CH → Kv → Prop
abbrev O1 := D → CH → Kv → Prop
abbrev OL := List D → CH → Kv → Prop
def cBin (o : O2) (a b : CTE) : CTE := fun σ C Q => a σ C fun d C1 => b σ C1 fun e C2 => o d e C2 Q
def cUn (o : O1) (a : CTE) : CTE := fun σ C Q => a σ C fun d C1 => o d C1 Q
def cList (o : OL) (a : CTA) : CTE := fun σ C Q => a σ C fun ds C1 => o ds C1 Q
section
variable (K : PySem.W.Frag) (cl : ClsT)
/-- a rule by values over V is met by a clean one -/
def Lk2 (r : R2) (o : O2) : Prop := ∀ H C d e v u Q Qc, Rep K H d v → Rep K H e u → Rel K cl H C → o d e C Qc → EndE K cl H C Qc Q → r v u H Q
def Lk1 (r : V → Hp → VK → Prop) (o : O1) : Prop := ∀ H C d v Q Qc, Rep K H d v → Rel K cl H C → o d C Qc → EndE K cl H C Qc Q → r v H Q
def LkL (r : List V → Hp → VK → Prop) (o : OL) : Prop := ∀ H C ds vs Q Qc, RepL K H ds vs → Rel K cl H C → o ds C Qc → EndE K cl H C Qc Q → r vs H Q
end
section
variable {X : Cx} {cl : ClsT} {H0 : Hp} {C0 : CH} {a b c e : Expr} {es : List Expr} {ca cb cc : CTE} {pos : Pos}
theorem cpe_var {i : Nat} {x : Str} (hN : X.N[i]? = some x) (hv : Vis X.env.scope x) (hd : (x == ("__debug__" : Str)) = false) (hcd : (x == ("__classdict__" : Str)) = false) : CPE X cl H0 C0 (.Name x pos) (cVar i) :=
  (pe_var hN hv hd hcd).imp fun σ H Q ⟨σc, C, Qc, S, ⟨d, e, q⟩, hq⟩ => by
    obtain ⟨v, h1, h2⟩ := S.s.get e
    exact ⟨v, h1, hq.now q h2 S.r⟩
theorem tC_of {d : D} {v : V} (r : ∀ H, Rep X.K H d v) : ∀ σ H Q, tE X.K cl H0 C0 (cC d) σ H Q → tC v σ H Q := fun σ H Q ⟨σc, C, Qc, S, q, hq⟩ => hq.now q (r H) S.r
theorem cpe_int {i : Int} {j : Nat} : CPE X cl H0 C0 (.Constant (.int i) j pos) (cC (.int i)) := pe_int.imp (tC_of fun _ => .int i)
theorem cpe_bl {i : Bool} {j : Nat} : CPE X cl H0 C0 (.Constant (.bool i) j pos) (cC (.bl i)) := pe_bl.imp (tC_of fun _ => .bl i)
theorem cpe_non {j : Nat} : CPE X cl H0 C0 (.Constant .none j pos) (cC .non) := pe_non.imp (tC_of fun _ => .non)
theorem cpe_str {i : Str} {j : Nat} : CPE X cl H0 C0 (.Constant (.str i) j pos) (cC (.str i)) := pe_str.imp (tC_of fun _ => .str i)
theorem cpe_glob {x : Str} {d : D} {v : V} {u : Value} (hg : Gl X x) (hm : X.mg x = some u) (r : RelV v u) (rd : ∀ H, Rep X.K H d v) (hd : (x == ("__debug__" : Str)) = false) : CPE X cl H0 C0 (.Name x pos) (cC d) :=
  (pe_glob hg hm r hd).imp (tC_of rd)
theorem cpe_bin {op : Operator} {r : R2} {o : O2} (ho : OpR X (binaryOp op) r) (l : Lk2 X.K cl r o) (ha : CPE X cl H0 C0 a ca) (hb : CPE X cl H0 C0 b cb) : CPE X cl H0 C0 (.BinOp a op b pos) (cBin o ca cb) :=
  (pe_op ho ha hb).imp fun σ H Q ⟨σc, C, Qc, S, h, hq⟩ => ⟨σc, C, _, S, h, fun d C1 v H1 h1 rv R1 k1 => ⟨σc, C1, _, S.step k1 R1, h1, fun e C2 u H2 h2 ru R2 k2 =>
    l H2 C2 d e v u Q Qc (rv.keep R1 k2) ru R2 h2 ((hq.from_ k1).from_ k2)⟩⟩
theorem tOp_of {r : R2} {o : O2} {ta tb : TE} (l : Lk2 X.K cl r o) : ∀ σ H Q, tE X.K cl H0 C0 (cBin o ca cb) σ H Q → tOp r (tE X.K cl H0 C0 ca) (tE X.K cl H0 C0 cb) σ H Q :=
  fun σ H Q ⟨σc, C, Qc, S, h, hq⟩ => ⟨σc, C, _, S, h, fun d C1 v H1 h1 rv R1 k1 => ⟨σc, C1, _, S.step k1 R1, h1, fun e C2 u H2 h2 ru R2 k2 =>
    l H2 C2 d e v u Q Qc (rv.keep R1 k2) ru R2 h2 ((hq.from_ k1).from_ k2)⟩⟩
theorem cpe_un {op : UnaryOp} {r : V → Hp → VK → Prop} {o : O1} (ho : UnR X (unaryOp op) r) (l : Lk1 X.K cl r o) (ha : CPE X cl H0 C0 a ca) : CPE X cl H0 C0 (.UnaryOp op a pos) (cUn o ca) :=
  (pe_un ho ha).imp fun σ H Q ⟨σc, C, Qc, S, h, hq⟩ => ⟨σc, C, _, S, h, fun d C1 v H1 h1 rv R1 k1 => l H1 C1 d v Q Qc rv R1 h1 (hq.from_ k1)⟩
theorem cpe_cmp {op : CmpOp} {r : R2} {o : O2} (ho : OpR X (compareOp op) r) (l : Lk2 X.K cl r o) (ha : CPE X cl H0 C0 a ca) (hb : CPE X cl H0 C0 b cb) (hm : behindInMarks op b = false) : CPE X cl H0 C0 (.Compare a [op] [b] pos) (cBin o ca cb) :=
  (pe_cmpR ho ha hb hm).imp (tOp_of (ta := tE X.K cl H0 C0 ca) (tb := tE X.K cl H0 C0 cb) l)
/-- a value that is a bool, as a test -/
def cTst (c : CTE) : CTT := fun σ C Q => c σ C fun d C1 => ∃ b, d = .bl b ∧ Q b C1
theorem rep_bl {H : Hp} {b : Bool} {v : V} {K : PySem.W.Frag} (h : Rep K H (.bl b) v) : v = .bl b := by cases h; rfl
theorem cpt_cmp {op : CmpOp} {r : R2} {o : O2} (ho : OpR X (compareOp op) r) (l : Lk2 X.K cl r o) (ha : CPE X cl H0 C0 a ca) (hb : CPE X cl H0 C0 b cb) (hm : behindInMarks op b = false) : CPT X cl H0 C0 (.Compare a [op] [b] pos) (cTst (cBin o ca cb)) :=
  (pt_cmpR ho ha hb hm).imp fun σ H Q ⟨σc, C, Qc, S, h, hq⟩ => ⟨σc, C, _, S, h, fun d C1 v H1 h1 rv R1 k1 => ⟨σc, C1, _, S.step k1 R1, h1, fun e C2 u H2 h2 ru R2 k2 =>
    l H2 C2 d e v u _ _ (rv.keep R1 k2) ru R2 h2 fun z C3 w H3 h3 rz R3 k3 => by
      obtain ⟨b, rfl, q⟩ := h3
      cases rz
      exact ⟨b, rfl, hq b C3 H3 q R3 ((k1.trans k2).trans k3)⟩⟩⟩
theorem cpt_val (ha : CPE X cl H0 C0 a ca) (he : ∀ whole, isTrue a X.env whole = (do let v ← whole; standAt a.pos; holding [v] (truthy v))) : CPT X cl H0 C0 a (cTst ca) :=
  (pt_val ha he).imp fun σ H Q ⟨σc, C, Qc, S, h, hq⟩ => ⟨σc, C, _, S, h, fun z C1 w H1 h1 rz R1 k1 => by
      obtain ⟨b, rfl, q⟩ := h1
      cases rz
      exact ⟨b, rfl, hq b C1 H1 q R1 k1⟩⟩
def cAnd (a b : CTT) : CTT := fun σ C Q => a σ C fun c C1 => if c = true then b σ C1 Q else Q false C1
def cOr (a b : CTT) : CTT := fun σ C Q => a σ C fun c C1 => if c = true then Q true C1 else b σ C1 Q
def cNot (a : CTT) : CTT := fun σ C Q => a σ C fun c C1 => Q (!c) C1
variable {ka kb : CTT} {rest : List Expr}
theorem EndT.from_ {K : PySem.W.Frag} {H H1 : Hp} {C C1 : CH} {Qc : Bool → CH → Prop} {Q : Bool → Hp → Prop} (h : EndT K cl H C Qc Q) (k : Keep H C H1 C1) : EndT K cl H1 C1 Qc Q := fun d C' H' q R k' => h d C' H' q R (k.trans k')
theorem cpw_and1 (ha : CPT X cl H0 C0 a ka) : CPW X cl H0 C0 (.BoolOp .And [a] pos) ka := pw_and1 ha
theorem cpw_or1 (ha : CPT X cl H0 C0 a ka) : CPW X cl H0 C0 (.BoolOp .Or [a] pos) ka := pw_or1 ha
theorem cpw_and (ha : CPT X cl H0 C0 a ka) (hb : CPW X cl H0 C0 (.BoolOp .And (b :: rest) pos) kb) : CPW X cl H0 C0 (.BoolOp .And (a :: b :: rest) pos) (cAnd ka kb) :=
  (pw_and ha hb).imp fun σ H Q ⟨σc, C, Qc, S, h, hq⟩ => ⟨σc, C, _, S, h, fun z C1 H1 h1 R1 k1 => by
    cases z with
    | true => exact iteT ⟨σc, C1, _, S.step k1 R1, h1, hq.from_ k1⟩
    | false => exact iteF (hq _ _ _ h1 R1 k1)⟩
theorem cpw_or (ha : CPT X cl H0 C0 a ka) (hb : CPW X cl H0 C0 (.BoolOp .Or (b :: rest) pos) kb) : CPW X cl H0 C0 (.BoolOp .Or (a :: b :: rest) pos) (cOr ka kb) :=
  (pw_or ha hb).imp fun σ H Q ⟨σc, C, Qc, S, h, hq⟩ => ⟨σc, C, _, S, h, fun z C1 H1 h1 R1 k1 => by
    cases z with
    | true => exact iteT (hq _ _ _ h1 R1 k1)
    | false => exact iteF ⟨σc, C1, _, S.step k1 R1, h1, hq.from_ k1⟩⟩
theorem CPW.pt (h : CPW X cl H0 C0 a ka) : CPT X cl H0 C0 a ka := L2.PW.pt h
theorem cpt_not (ha : CPT X cl H0 C0 a ka) : CPT X cl H0 C0 (.UnaryOp .Not a pos) (cNot ka) :=
  (pt_not ha).imp fun σ H Q ⟨σc, C, Qc, S, h, hq⟩ => ⟨σc, C, _, S, h, fun z C1 H1 h1 R1 k1 => hq _ _ _ h1 R1 k1⟩
/-- and, or, not as values: all but the last are bools -/
def cAndV (a b : CTE) : CTE := fun σ C Q => a σ C fun d C1 => ∃ c, d = .bl c ∧ if c = true then b σ C1 Q else Q (.bl false) C1
def cOrV (a b : CTE) : CTE := fun σ C Q => a σ C fun d C1 => ∃ c, d = .bl c ∧ if c = true then Q (.bl true) C1 else b σ C1 Q
def cNotV (a : CTE) : CTE := fun σ C Q => a σ C fun d C1 => ∃ c, d = .bl c ∧ Q (.bl (!c)) C1
theorem cpe_one {op} (h : CPE X cl H0 C0 a ca) : CPE X cl H0 C0 (.BoolOp op [a] pos) ca := pe_one h
theorem cpe_and (ha : CPE X cl H0 C0 a ca) (hb : CPE X cl H0 C0 (.BoolOp .And (b :: rest) pos) cb) : CPE X cl H0 C0 (.BoolOp .And (a :: b :: rest) pos) (cAndV ca cb) :=
  (pe_and ha hb).imp fun σ H Q ⟨σc, C, Qc, S, h, hq⟩ => ⟨σc, C, _, S, h, fun z C1 v H1 h1 rz R1 k1 => by
    obtain ⟨c, rfl, h1⟩ := h1
    cases rz
    refine ⟨c, rfl, ?_⟩
    cases c with
    | true => exact iteT ⟨σc, C1, _, S.step k1 R1, h1, hq.from_ k1⟩
    | false => exact iteF (hq _ _ _ _ h1 (.bl _) R1 k1)⟩
theorem cpe_or (ha : CPE X cl H0 C0 a ca) (hb : CPE X cl H0 C0 (.BoolOp .Or (b :: rest) pos) cb) : CPE X cl H0 C0 (.BoolOp .Or (a :: b :: rest) pos) (cOrV ca cb) :=
  (pe_or ha hb).imp fun σ H Q ⟨σc, C, Qc, S, h, hq⟩ => ⟨σc, C, _, S, h, fun z C1 v H1 h1 rz R1 k1 => by
    obtain ⟨c, rfl, h1⟩ := h1
    cases rz
    refine ⟨c, rfl, ?_⟩
    cases c with
    | true => exact iteT (hq _ _ _ _ h1 (.bl _) R1 k1)
    | false => exact iteF ⟨σc, C1, _, S.step k1 R1, h1, hq.from_ k1⟩⟩
theorem cpe_not (ha : CPE X cl H0 C0 a ca) : CPE X cl H0 C0 (.UnaryOp .Not a pos) (cNotV ca) :=
  (pe_not ha).imp fun σ H Q ⟨σc, C, Qc, S, h, hq⟩ => ⟨σc, C, _, S, h, fun z C1 v H1 h1 rz R1 k1 => by
    obtain ⟨c, rfl, h1⟩ := h1
    cases rz
    exact ⟨c, rfl, hq _ _ _ _ h1 (.bl _) R1 k1⟩⟩
def cIf (t : CTT) (a b : CTE) : CTE := fun σ C Q => t σ C fun c C1 => if c = true then a σ C1 Q else b σ C1 Q
theorem cpe_if (ht : CPT X cl H0 C0 c ka) (ha : CPE X cl H0 C0 a ca) (hb : CPE X cl H0 C0 b cb) : CPE X cl H0 C0 (.IfExp c a b pos) (cIf ka ca cb) :=
  (pe_ifExp ht ha hb).imp fun σ H Q ⟨σc, C, Qc, S, h, hq⟩ => ⟨σc, C, _, S, h, fun z C1 H1 h1 R1 k1 => by
    cases z with
    | true => exact iteT ⟨σc, C1, _, S.step k1 R1, h1, hq.from_ k1⟩
    | false => exact iteF ⟨σc, C1, _, S.step k1 R1, h1, hq.from_ k1⟩⟩
/-! arguments and displays -/
def cNil : CTA := fun _ C Q => Q [] C
def cCons (a : CTE) (r : CTA) : CTA := fun σ C Q => a σ C fun d C1 => r σ C1 fun ds C2 => Q (d :: ds) C2
variable {cs : CTA}
theorem cpa_nil : CPA X cl H0 C0 [] cNil := pa_nil.imp fun σ H Q ⟨σc, C, Qc, S, h, hq⟩ => hq _ _ _ _ h .nil S.r Keep.refl
theorem cpa_cons (ha : CPE X cl H0 C0 e ca) (hr : CPA X cl H0 C0 es cs) (hs : starEach (e :: es) X.env = (false, eval e X.env) :: starEach es X.env) : CPA X cl H0 C0 (e :: es) (cCons ca cs) :=
  (pa_cons ha hr hs).imp fun σ H Q ⟨σc, C, Qc, S, h, hq⟩ => ⟨σc, C, _, S, h, fun d C1 v H1 h1 rv R1 k1 => ⟨σc, C1, _, S.step k1 R1, h1, fun ds C2 vs H2 h2 rs R2 k2 =>
    hq _ _ _ _ h2 (.cons (rv.keep R1 k2) rs) R2 (k1.trans k2)⟩⟩
def oTup : OL := fun ds C Q => ds.length ≤ sizeLine ∧ Q (.tup ds) C
def oLst : OL := fun ds C Q => ds.length ≤ sizeLine ∧ ∀ p, C p = none → Q (.ref p) (cup C p (.lst ds))
end
section
variable {K : PySem.W.Frag} {cl : ClsT} {H : Hp} {C : CH}
theorem keep_newH {p : Addr} (hp : H p = none) (o : HO) (R : Rel K cl H C) : Keep H C (upd H p o) C := fun b u h n => ⟨by rw [upd_ne (ne_of_none h hp)]; exact h, n⟩
theorem Rd.newH {p : Addr} (hp : H p = none) (o : HO) {a : Addr} {u : HO} (h : Rd H a u) : Rd (upd H p o) a u := by
  rcases h with h | ⟨w, h⟩
  · exact .inl (by rw [upd_ne (ne_of_none h hp)]; exact h)
  · exact .inr ⟨w, by rw [upd_ne (ne_of_none h hp)]; exact h⟩
theorem OkO.newH {p : Addr} (hp : H p = none) (R : Rel K cl H C) (o : HO) {a : Addr} {u : CO} (h : OkO K cl H a u) : OkO K cl (upd H p o) a u := by
  have k := keep_newH hp o R
  cases u with
  | lst ds => obtain ⟨vs, h1, h2⟩ := h; exact ⟨vs, by rw [upd_ne (ne_of_none h1 hp)]; exact h1, h2.keep R k⟩
  | dic ds => obtain ⟨vs, h1, h2⟩ := h; exact ⟨vs, by rw [upd_ne (ne_of_none h1 hp)]; exact h1, h2.keep R k⟩
  | dtk ds => obtain ⟨vs, h1, h2⟩ := h; exact ⟨vs, by rw [upd_ne (ne_of_none h1 hp)]; exact h1, h2.keep R k⟩
  | ins c ds => obtain ⟨Ca, dx, vs, h0, h1, h2⟩ := h; exact ⟨Ca, dx, vs, h0, by rw [upd_ne (ne_of_none h1 hp)]; exact h1, h2.keep R k⟩
theorem Rel.newH {p : Addr} (hp : H p = none) (R : Rel K cl H C) (o : HO) : Rel K cl (upd H p o) C := fun a u e => (R a u e).newH hp R o
/-- a new object, known to the clean heap too -/
theorem Rel.new {p : Addr} (hp : H p = none) (R : Rel K cl H C) (o : HO) (u : CO) (ok : OkO K cl (upd H p o) p u) : Rel K cl (upd H p o) (cup C p u) := fun a w e => by
  by_cases h : a = p
  · subst h; rw [cup_same] at e; cases e; exact ok
  · rw [cup_ne h] at e; exact (R a w e).newH hp R o
theorem Keep.new {p : Addr} (hp : H p = none) (R : Rel K cl H C) (o : HO) (u : CO) : Keep H C (upd H p o) (cup C p u) := fun b w h n =>
  ⟨by rw [upd_ne (ne_of_none h hp)]; exact h, by rw [cup_ne (ne_of_none h hp)]; exact n⟩
/-- an object of the clean heap is written -/
theorem Keep.write {a : Addr} {u : CO} (e : C a = some u) (o : HO) (u' : CO) : Keep H C (upd H a o) (cup C a u') := fun b w h n => by
  have hb : b ≠ a := by intro z; rw [z, e] at n; cases n
  exact ⟨by rw [upd_ne hb]; exact h, by rw [cup_ne hb]; exact n⟩
end
end L3

namespace L3
open PySem L2
section
variable {K : PySem.W.Frag} {cl : ClsT} {H : Hp} {C : CH}
/-- a new tuple at p -/
theorem EndE.tup {Qc : Kv} {Q : VK} {ds : List D} {vs : List V} (h : EndE K cl H C Qc Q) (q : Qc (.tup ds) C) (r : RepL K H ds vs) (R : Rel K cl H C) {p : Addr} (hp : H p = none) : Q (.ref p) (upd H p (.tup vs)) :=
  h _ _ _ _ q (.tup (.inl (.inl upd_same)) (r.keep R (keep_newH hp _ R))) (R.newH hp _) (keep_newH hp _ R)
/-- a new list at p -/
theorem EndE.lst {Qc : Kv} {Q : VK} {ds : List D} {vs : List V} (h : EndE K cl H C Qc Q) (r : RepL K H ds vs) (R : Rel K cl H C) {p : Addr} (hp : H p = none) (q : Qc (.ref p) (cup C p (.lst ds))) : Q (.ref p) (upd H p (.lst vs)) :=
  h _ _ _ _ q (.ref p) (R.new hp _ _ ⟨vs, upd_same, r.keep R (keep_newH hp _ R)⟩) (Keep.new hp R _ _)
theorem Rel.write (R : Rel K cl H C) {a : Addr} {u u' : CO} {o o' : HO} (e : C a = some u) (he : H a = some o) (nt : ∀ vs, ¬ Rd H a (.tup vs)) (ok : OkO K cl (upd H a o') a u') : Rel K cl (upd H a o') (cup C a u') := fun b w hb => by
  by_cases h : b = a
  · subst h; rw [cup_same] at hb; cases hb; exact ok
  · rw [cup_ne h] at hb
    have k : Keep H C (upd H a o') (cup C a u') := Keep.write e _ _
    have q := R b w hb
    cases w with
    | lst ds => obtain ⟨vs, h1, h2⟩ := q; exact ⟨vs, by rw [upd_ne h]; exact h1, h2.keep R k⟩
    | dic ds => obtain ⟨vs, h1, h2⟩ := q; exact ⟨vs, by rw [upd_ne h]; exact h1, h2.keep R k⟩
    | dtk ds => obtain ⟨vs, h1, h2⟩ := q; exact ⟨vs, by rw [upd_ne h]; exact h1, h2.keep R k⟩
    | ins c ds => obtain ⟨Ca, dx, vs, h0, h1, h2⟩ := q; exact ⟨Ca, dx, vs, h0, by rw [upd_ne h]; exact h1, h2.keep R k⟩
/-- a list written -/
theorem Rel.wlst (R : Rel K cl H C) {a : Addr} {u : CO} {vs : List V} {ds' : List D} {vs' : List V} (e : C a = some u) (he : H a = some (.lst vs)) (r : RepL K H ds' vs') : Rel K cl (upd H a (.lst vs')) (cup C a (.lst ds')) :=
  R.write e he (fun xs h => by rcases h with h | ⟨z, h⟩ <;> (rw [he] at h; cases h)) ⟨vs', upd_same, r.keep R (Keep.write e _ (.lst ds'))⟩
/-- a list read -/
def LsC (C : CH) (p : Addr) (ds : List D) : Prop := C p = some (.lst ds)
theorem Rel.ls (R : Rel K cl H C) {p : Addr} {ds : List D} (h : LsC C p ds) : ∃ vs, SqL K H p vs ∧ RepL K H ds vs := by
  obtain ⟨vs, h1, h2⟩ := R p _ h
  exact ⟨vs, .inl (.inl h1), h2⟩
/-- a sequence read: a tuple or a list -/
def SqC (C : CH) (d : D) (ds : List D) : Prop := d = .tup ds ∨ d = .rls ds ∨ ∃ p, d = .ref p ∧ LsC C p ds
theorem Rel.sq (R : Rel K cl H C) {d : D} {v : V} {ds : List D} (h : SqC C d ds) (r : Rep K H d v) : ∃ p vs, v = .ref p ∧ (SqL K H p vs ∨ SqT K H p vs) ∧ RepL K H ds vs := by
  rcases h with rfl | rfl | ⟨p, rfl, h⟩
  · cases r with
    | tup s t => exact ⟨_, _, rfl, .inr s, t⟩
  · cases r with
    | rls s t => exact ⟨_, _, rfl, .inl s.sq, t⟩
  · cases r
    obtain ⟨vs, h1, h2⟩ := R.ls h
    exact ⟨p, vs, rfl, .inl h1, h2⟩
end
section
variable {X : Cx} {cl : ClsT} {H0 : Hp} {C0 : CH} {e : Expr} {es : List Expr} {ca : CTE} {cs : CTA} {pos : Pos}
theorem cpe_tup {x1} (h : CPA X cl H0 C0 es cs) : CPE X cl H0 C0 (.Tuple es x1 pos) (cList oTup cs) :=
  (pe_tup h).imp fun σ H Q ⟨σc, C, Qc, S, h, hq⟩ => ⟨σc, C, _, S, h, fun ds C1 vs H1 ⟨hl, h1⟩ rs R1 k1 => ⟨by rw [← rs.length]; exact hl, fun p hp => (hq.from_ k1).tup h1 rs R1 hp⟩⟩
theorem cpe_lst (h : CPA X cl H0 C0 es cs) : CPE X cl H0 C0 (.List es pos) (cList oLst cs) :=
  (pe_lst h).imp fun σ H Q ⟨σc, C, Qc, S, h, hq⟩ => ⟨σc, C, _, S, h, fun ds C1 vs H1 ⟨hl, h1⟩ rs R1 k1 => ⟨by rw [← rs.length]; exact hl, fun p hp => (hq.from_ k1).lst rs R1 hp (h1 p (free_of R1 hp))⟩⟩
/-- a built-in function called -/
theorem cpe_callB {x : Str} {id : String} {p : Pos} {r : List V → Hp → VK → Prop} {o : OL} (hc : CallR X (.builtin id) r) (l : LkL X.K cl r o) (hg : Gl X x) (hm : X.mg x = none) (hv : bootBuiltins x = some (.builtin id)) (ha : CPA X cl H0 C0 (e :: es) cs) (hn : x ≠ "__name__") (hdb : (x == ("__debug__" : Str)) = false)
    (he : starEach (e :: es) X.env = (false, eval e X.env) :: starEach es X.env) (hpl : (backTo pos (starEach es X.env)).any (·.1) = false) : CPE X cl H0 C0 (.Call (.Name x p) (e :: es) [] pos) (cList o cs) :=
  (pe_callB hc hg hm hv ha hn hdb he hpl).imp fun σ H Q ⟨σc, C, Qc, S, h, hq⟩ => ⟨σc, C, _, S, h, fun ds C1 vs H1 h1 rs R1 k1 => l H1 C1 ds vs Q Qc rs R1 h1 (hq.from_ k1)⟩
theorem cpe_callTy {x : Str} {T : String} {p : Pos} {r : List V → Hp → VK → Prop} {o : OL} (hc : CallR X (.type T) r) (l : LkL X.K cl r o) (hg : Gl X x) (hm : X.mg x = none) (hv : bootBuiltins x = some (.type T)) (ha : CPA X cl H0 C0 (e :: es) cs) (hn : x ≠ "__name__") (hdb : (x == ("__debug__" : Str)) = false)
    (he : starEach (e :: es) X.env = (false, eval e X.env) :: starEach es X.env) (hpl : (backTo pos (starEach es X.env)).any (·.1) = false) : CPE X cl H0 C0 (.Call (.Name x p) (e :: es) [] pos) (cList o cs) :=
  (pe_callTy hc hg hm hv ha hn hdb he hpl).imp fun σ H Q ⟨σc, C, Qc, S, h, hq⟩ => ⟨σc, C, _, S, h, fun ds C1 vs H1 h1 rs R1 k1 => l H1 C1 ds vs Q Qc rs R1 h1 (hq.from_ k1)⟩
end

/-! ### operators, by values -/
section
variable {K : PySem.W.Frag} {cl : ClsT}
theorem rep_int {H : Hp} {i : Int} {v : V} (h : Rep K H (.int i) v) : v = .int i := by cases h; rfl
theorem rep_str {H : Hp} {i : Str} {v : V} (h : Rep K H (.str i) v) : v = .str i := by cases h; rfl
def o2I (P : Int → Int → Prop) (g : Int → Int → D) : O2 := fun x y C Q => ∃ i j, x = .int i ∧ y = .int j ∧ P i j ∧ Q (g i j) C
theorem lk_I {P : Int → Int → Prop} {g : Int → Int → V} {g' : Int → Int → D} (hg : ∀ H i j, Rep K H (g' i j) (g i j)) : Lk2 K cl (rI P g) (o2I P g') := fun H C d e v u Q Qc rd re R ⟨i, j, h1, h2, p, q⟩ hq => by
  subst h1; subst h2
  cases rd; cases re
  exact ⟨i, j, rfl, rfl, p, hq.now q (hg H i j) R⟩
theorem lk_I0 {g : Int → Int → V} {g' : Int → Int → D} (hg : ∀ H i j, Rep K H (g' i j) (g i j)) : Lk2 K cl (rI0 g) (o2I (fun _ _ => True) g') := fun H C d e v u Q Qc rd re R ⟨i, j, h1, h2, p, q⟩ hq => by
  subst h1; subst h2
  cases rd; cases re
  exact ⟨i, j, rfl, rfl, hq.now q (hg H i j) R⟩
theorem Lk2.or {r r' : R2} {o o' : O2} (h : Lk2 K cl r o) (h' : Lk2 K cl r' o') : Lk2 K cl (fun x y H Q => r x y H Q ∨ r' x y H Q) (fun x y C Q => o x y C Q ∨ o' x y C Q) := fun H C d e v u Q Qc rd re R q hq =>
  q.elim (fun q => .inl (h H C d e v u Q Qc rd re R q hq)) fun q => .inr (h' H C d e v u Q Qc rd re R q hq)
theorem LkL.or {r r' : List V → Hp → VK → Prop} {o o' : OL} (h : LkL K cl r o) (h' : LkL K cl r' o') : LkL K cl (fun x H Q => r x H Q ∨ r' x H Q) (fun x C Q => o x C Q ∨ o' x C Q) := fun H C ds vs Q Qc rd R q hq =>
  q.elim (fun q => .inl (h H C ds vs Q Qc rd R q hq)) fun q => .inr (h' H C ds vs Q Qc rd R q hq)
theorem RepL.nil_inv {H : Hp} {vs : List V} (h : RepL K H [] vs) : vs = [] := by cases h; rfl
theorem RepL.one {H : Hp} {d : D} {vs : List V} (h : RepL K H [d] vs) : ∃ v, vs = [v] ∧ Rep K H d v := by
  cases h with | cons r t => cases t; exact ⟨_, rfl, r⟩
theorem RepL.two {H : Hp} {d e : D} {vs : List V} (h : RepL K H [d, e] vs) : ∃ v u, vs = [v, u] ∧ Rep K H d v ∧ Rep K H e u := by
  cases h with | cons r t => obtain ⟨u, rfl, s⟩ := t.one; exact ⟨_, u, rfl, r, s⟩

/-- + of texts -/
def oAddS : O2 := fun x y C Q => ∃ i j, x = .str i ∧ y = .str j ∧ i.length + j.length ≤ sizeLine ∧ Q (.str (i ++ j)) C
theorem lk_addS : Lk2 K cl (fun x y H Q => ∃ i j, x = .str i ∧ y = .str j ∧ i.length + j.length ≤ sizeLine ∧ Q (.str (i ++ j)) H) oAddS := fun H C d e v u Q Qc rd re R ⟨i, j, h1, h2, p, q⟩ hq => by
  subst h1; subst h2
  cases rd; cases re
  exact ⟨i, j, rfl, rfl, p, hq.now q (.str _) R⟩
/-- + of lists that may change -/
def oCat : O2 := fun x y C Q => ∃ a b xs ys, x = .ref a ∧ y = .ref b ∧ C a = some (.lst xs) ∧ C b = some (.lst ys) ∧ xs.length + ys.length ≤ sizeLine ∧ ∀ p, C p = none → Q (.ref p) (cup C p (.lst (xs ++ ys)))
theorem lk_cat : Lk2 K cl rCat oCat := fun H C d e v u Q Qc rd re R ⟨a, b, xs, ys, h1, h2, ha, hb, p, q⟩ hq => by
  subst h1; subst h2
  cases rd; cases re
  obtain ⟨vs, e1, r1⟩ := R a _ ha
  obtain ⟨us, e2, r2⟩ := R b _ hb
  exact ⟨a, b, vs, us, rfl, rfl, e1, e2, by rw [← r1.length, ← r2.length]; exact p, fun p hp => hq.lst (r1.append r2) R hp (q p (free_of R hp))⟩
/-- + of tuples -/
def oCatT : O2 := fun x y C Q => ∃ xs ys, x = .tup xs ∧ y = .tup ys ∧ xs.length + ys.length ≤ sizeLine ∧ Q (.tup (xs ++ ys)) C
theorem lk_catT : Lk2 K cl (rCatA K) oCatT := fun H C d e v u Q Qc rd re R ⟨xs, ys, h1, h2, p, q⟩ hq => by
  subst h1; subst h2
  cases rd with
  | tup s1 t1 =>
  cases re with
  | tup s2 t2 =>
    refine ⟨_, _, _, _, rfl, rfl, s1, s2, by rw [← t1.length, ← t2.length]; exact p, fun z => ?_, fun z1 z2 => ?_, fun z1 z2 p hp => hq.tup q (t1.append t2) R hp⟩
    · subst z
      cases t1
      exact hq.now q (.tup s2 t2) R
    · subst z2
      cases t2
      rw [List.append_nil] at q
      exact hq.now q (.tup s1 t1) R
/-- items -/
def oIx : O2 := fun x y C Q => ∃ ds i d, SqC C x ds ∧ y = .int i ∧ atI ds i = some d ∧ Q d C
theorem RepL.atI {H : Hp} {ds : List D} {vs : List V} {i : Int} {d : D} (h : RepL K H ds vs) (e : atI ds i = some d) : ∃ v, L2.atI vs i = some v ∧ Rep K H d v := by
  unfold L2.atI at e ⊢
  rw [← h.length]
  cases hb : ixN ds.length i with
  | none => rw [hb] at e; cases e
  | some j => rw [hb] at e; exact h.get e
theorem lk_ix : Lk2 K cl (fun x y H Q => rIxL K x y H Q ∨ rIxT K x y H Q) oIx := fun H C d e v u Q Qc rd re R ⟨ds, i, z, h1, h2, h3, q⟩ hq => by
  subst h2
  cases re
  obtain ⟨p, vs, rfl, h, r⟩ := R.sq h1 rd
  obtain ⟨w, e1, r1⟩ := r.atI h3
  rcases h with h | h
  · exact .inl ⟨p, vs, i, w, rfl, rfl, h, e1, hq.now q r1 R⟩
  · exact .inr ⟨p, vs, i, w, rfl, rfl, h, e1, hq.now q r1 R⟩
def oIxS : O2 := fun x y C Q => ∃ z i c, x = .str z ∧ y = .int i ∧ z.length ≤ sizeLine ∧ atI z.cps.toList i = some c ∧ Q (.str ⟨#[c]⟩) C
theorem lk_ixS : Lk2 K cl rIxS oIxS := fun H C d e v u Q Qc rd re R ⟨z, i, c, h1, h2, h3, h4, q⟩ hq => by
  subst h1; subst h2
  cases rd; cases re
  exact ⟨z, i, c, rfl, rfl, h3, h4, hq.now q (.str _) R⟩
/-! dicts -/
def keyD : D → Option Key
  | .int i => some (.inl i)
  | .str x => some (.inr x)
  | _ => none
def valC (kvs : List (Key × D)) (k : Key) : Option D := (kvs.find? fun kv => decide (kv.1 = k)).map (·.2)
def putC (kvs : List (Key × D)) (k : Key) (v : D) : List (Key × D) := if (kvs.any fun kv => decide (kv.1 = k)) = true then kvs.map (fun kv => if kv.1 = k then (kv.1, v) else kv) else kvs ++ [(k, v)]
theorem keyD_rep {H : Hp} {d : D} {v : V} {k : Key} (h : keyD d = some k) (r : Rep K H d v) : v = kV k := by
  cases r <;> simp [keyD] at h <;> subst h <;> rfl
theorem RepF.val {H : Hp} {kvs : List (Key × D)} {vs : List (Key × V)} (h : RepF K H kvs vs) (k : Key) : (∀ d, valC kvs k = some d → ∃ v, valV vs k = some v ∧ Rep K H d v) ∧ (valC kvs k = none → valV vs k = none) := by
  unfold valC valV
  induction h with
  | nil => exact ⟨fun d e => by simp at e, fun _ => rfl⟩
  | @cons k' d' v' ds vs r t ih =>
    by_cases hk : k' = k
    · subst hk
      simp only [List.find?_cons, decide_true, Option.map_some]
      exact ⟨fun d e => ⟨v', rfl, by cases e; exact r⟩, fun e => nomatch e⟩
    · simp only [List.find?_cons, decide_eq_false hk]
      exact ih
def oGet : O2 := fun x y C Q => ∃ a kvs k d, x = .ref a ∧ C a = some (.dic kvs) ∧ keyD y = some k ∧ valC kvs k = some d ∧ Q d C
def rGetV : R2 := fun x y H Q => ∃ a v, x = .ref a ∧ DGet H a y (some v) ∧ Q v H
theorem lk_get : Lk2 K cl rGetV oGet := fun H C d e v u Q Qc rd re R ⟨a, kvs, k, z, h1, h2, h3, h4, q⟩ hq => by
  subst h1
  cases rd
  obtain ⟨vs, e1, r1⟩ := R a _ h2
  obtain ⟨w, e2, r2⟩ := (r1.val k).1 z h4
  have e3 := keyD_rep h3 re
  subst e3
  exact ⟨a, w, rfl, by rw [← e2]; exact DGet.k e1, hq.now q r2 R⟩
theorem _root_.L2.ix_dict {X : Cx} (hu : X.A.units + 1 < cLine) : IxR X rGetV := by
  intro value slice pins s σ H x y v u Q I rx ry h hs
  obtain ⟨a, w, rfl, g, q⟩ := h
  cases rx
  exact PyProof.Rows.tail_any (dict_typeIs I g) PySem.F.slot_dict_getitem.lookup (d_getItem hu I g ry fun w' s' I' r' => ⟨w, H, I', r', q⟩) hs
/-! length -/
def oLen : OL := fun xs C Q => ∃ x, xs = [x] ∧ ((∃ ds, SqC C x ds ∧ Q (.int ds.length) C) ∨ (∃ z, x = .str z ∧ z.length ≤ sizeLine ∧ Q (.int z.length) C))
theorem lk_len : LkL K cl (fun xs H Q => (∃ p ys, xs = [.ref p] ∧ (SqL K H p ys ∨ SqT K H p ys) ∧ Q (.int ys.length) H) ∨ (∃ z, xs = [.str z] ∧ z.length ≤ sizeLine ∧ Q (.int z.length) H)) oLen := fun H C ds vs Q Qc rs R ⟨x, h1, h2⟩ hq => by
  subst h1
  obtain ⟨v, rfl, r⟩ := rs.one
  rcases h2 with ⟨ds, h, q⟩ | ⟨z, rfl, h, q⟩
  · obtain ⟨p, vs, rfl, h, rr⟩ := R.sq h r
    exact .inl ⟨p, vs, rfl, h, by rw [← rr.length]; exact hq.now q (.int _) R⟩
  · cases r
    exact .inr ⟨z, rfl, h, hq.now q (.int _) R⟩
/-- int(i), int(flag) -/
def oInt : OL := fun xs C Q => (∃ i, xs = [.int i] ∧ Q (.int i) C) ∨ ∃ k, xs = [.bl k] ∧ Q (.int (if k then 1 else 0)) C
theorem lk_int : LkL K cl (fun xs H Q => (∃ i, xs = [.int i] ∧ Q (.int i) H) ∨ ∃ k, xs = [.bl k] ∧ Q (.int (if k then 1 else 0)) H) oInt := fun H C ds vs Q Qc rs R h hq => by
  rcases h with ⟨i, rfl, q⟩ | ⟨k, rfl, q⟩
  · obtain ⟨v, rfl, r⟩ := rs.one
    cases r
    exact .inl ⟨i, rfl, hq.now q (.int _) R⟩
  · obtain ⟨v, rfl, r⟩ := rs.one
    cases r
    exact .inr ⟨k, rfl, hq.now q (.int _) R⟩
/-- list(a list or tuple) -/
def oList : OL := fun xs C Q => ∃ x ds, xs = [x] ∧ SqC C x ds ∧ ∀ p, C p = none → Q (.ref p) (cup C p (.lst ds))
theorem lk_list : LkL K cl (fun xs H Q => ∃ p ys, xs = [.ref p] ∧ (SqL K H p ys ∨ SqT K H p ys) ∧ ∀ l, H l = none → Q (.ref l) (upd H l (.lst ys))) oList := fun H C ds vs Q Qc rs R ⟨x, es, h1, h2, q⟩ hq => by
  subst h1
  obtain ⟨v, rfl, r⟩ := rs.one
  obtain ⟨p, us, rfl, h, rr⟩ := R.sq h2 r
  exact ⟨p, us, rfl, h, fun l hl => hq.lst rr R hl (q l (free_of R hl))⟩
/-- tuple(a list or tuple) -/
def oTuple : OL := fun xs C Q => ∃ x ds, xs = [x] ∧ SqC C x ds ∧ Q (.tup ds) C
theorem lk_tuple : LkL K cl (fun xs H Q => ∃ p ys, xs = [.ref p] ∧ ((SqL K H p ys ∧ ∀ l, H l = none → Q (.ref l) (upd H l (.tup ys))) ∨ (SqT K H p ys ∧ Q (.ref p) H))) oTuple := fun H C ds vs Q Qc rs R ⟨x, es, h1, h2, q⟩ hq => by
  subst h1
  obtain ⟨v, rfl, r⟩ := rs.one
  obtain ⟨p, us, rfl, h, rr⟩ := R.sq h2 r
  refine ⟨p, us, rfl, ?_⟩
  rcases h with h | h
  · exact .inl ⟨h, fun l hl => hq.tup q rr R hl⟩
  · exact .inr ⟨h, hq.now q (.tup h rr) R⟩
/-- all, any of a list of bools -/
def oAll (f : List Bool → D) : OL := fun xs C Q => ∃ (p : Addr) (bs : List Bool), xs = [.ref p] ∧ LsC C p (bs.map D.bl) ∧ Q (f bs) C
theorem RepL.bls {H : Hp} : ∀ {bs : List Bool} {vs : List V}, RepL K H (bs.map D.bl) vs → vs = bs.map V.bl
  | [], _, .nil => rfl
  | b :: bs, _, .cons r t => by cases r; rw [RepL.bls t]; rfl
theorem RepL.ints {H : Hp} : ∀ {bs : List Int} {vs : List V}, RepL K H (bs.map D.int) vs → vs = bs.map V.int
  | [], _, .nil => rfl
  | b :: bs, _, .cons r t => by cases r; rw [RepL.ints t]; rfl
theorem RepL.strs {H : Hp} : ∀ {bs : List Str} {vs : List V}, RepL K H (bs.map D.str) vs → vs = bs.map V.str
  | [], _, .nil => rfl
  | b :: bs, _, .cons r t => by cases r; rw [RepL.strs t]; rfl
theorem lk_sum : LkL K cl (rSum K) (fun xs C Q => ∃ (p : Addr) (ns : List Int), xs = [.ref p] ∧ LsC C p (ns.map D.int) ∧ Q (.int ns.sum) C) := fun H C ds vs Q Qc rs R ⟨p, ns, h1, h2, q⟩ hq => by
  subst h1
  obtain ⟨v, rfl, r⟩ := rs.one
  cases r
  obtain ⟨us, e1, r1⟩ := R.ls h2
  have e2 := r1.ints
  subst e2
  exact ⟨p, ns, rfl, e1, hq.now q (.int _) R⟩
def oMaxL : OL := fun xs C Q => ∃ (p : Addr) (ns : List Int) (m : Int), xs = [.ref p] ∧ LsC C p (ns.map D.int) ∧ 0 < ns.length ∧ m ∈ ns ∧ (∀ y, y ∈ ns → y ≤ m) ∧ Q (.int m) C
theorem lk_maxL : LkL K cl (rMax K) oMaxL := fun H C ds vs Q Qc rs R ⟨p, ns, m, h1, h2, h3, h4, h5, q⟩ hq => by
  subst h1
  obtain ⟨v, rfl, r⟩ := rs.one
  cases r
  obtain ⟨us, e1, r1⟩ := R.ls h2
  have e2 := r1.ints
  subst e2
  refine ⟨p, ns, rfl, e1, h3, fun m' hm' hle => ?_⟩
  have e3 : m' = m := Int.le_antisymm (h5 m' hm') (hle m h4)
  subst e3
  exact hq.now q (.int _) R
/-- max, min of two ints -/
def oMax2 : OL := fun xs C Q => ∃ i j, xs = [.int i, .int j] ∧ Q (.int (if j > i then j else i)) C
def oMin2 : OL := fun xs C Q => ∃ i j, xs = [.int i, .int j] ∧ Q (.int (if j < i then j else i)) C
theorem lk_max2 : LkL K cl (fun xs H Q => ∃ i j, xs = [.int i, .int j] ∧ Q (.int (if j > i then j else i)) H) oMax2 := fun H C ds vs Q Qc rs R ⟨i, j, h1, q⟩ hq => by
  subst h1
  obtain ⟨v, u, rfl, r1, r2⟩ := rs.two
  cases r1; cases r2
  exact ⟨i, j, rfl, hq.now q (.int _) R⟩
theorem lk_min2 : LkL K cl (fun xs H Q => ∃ i j, xs = [.int i, .int j] ∧ Q (.int (if j < i then j else i)) H) oMin2 := fun H C ds vs Q Qc rs R ⟨i, j, h1, q⟩ hq => by
  subst h1
  obtain ⟨v, u, rfl, r1, r2⟩ := rs.two
  cases r1; cases r2
  exact ⟨i, j, rfl, hq.now q (.int _) R⟩
def oAbs : OL := fun xs C Q => ∃ i, xs = [.int i] ∧ Q (.int (if i < 0 then -i else i)) C
theorem lk_abs : LkL K cl (fun xs H Q => ∃ i, xs = [.int i] ∧ Q (.int (if i < 0 then -i else i)) H) oAbs := fun H C ds vs Q Qc rs R ⟨i, h1, q⟩ hq => by
  subst h1
  obtain ⟨v, rfl, r1⟩ := rs.one
  cases r1
  exact ⟨i, rfl, hq.now q (.int _) R⟩
/-! equality, membership -/
mutual
inductive Snap (C : CH) : D → PyData → Prop
  | non : Snap C .non .none
  | bl (b : Bool) : Snap C (.bl b) (.bool b)
  | int (i : Int) : Snap C (.int i) (.int i)
  | str (x : Str) : Snap C (.str x) (.str x)
  | tup {ds : List D} {ps : List PyData} : SnapL C ds ps → Snap C (.tup ds) (.tuple ps)
  | rls {ds : List D} {ps : List PyData} : SnapL C ds ps → Snap C (.rls ds) (.list ps)
  | lst {p : Addr} {ds : List D} {ps : List PyData} : LsC C p ds → SnapL C ds ps → Snap C (.ref p) (.list ps)
inductive SnapL (C : CH) : List D → List PyData → Prop
  | nil : SnapL C [] []
  | cons {d : D} {ds : List D} {p : PyData} {ps : List PyData} : Snap C d p → SnapL C ds ps → SnapL C (d :: ds) (p :: ps)
end
mutual
theorem Snap.dp {H : Hp} {C : CH} (R : Rel K cl H C) : ∀ {d : D} {p : PyData} {v : V}, Snap C d p → Rep K H d v → Dp K H v p
  | _, _, _, .non, .non => .non
  | _, _, _, .bl _, .bl _ => .bl _
  | _, _, _, .int _, .int _ => .int _
  | _, _, _, .str _, .str _ => .str _
  | _, _, _, .tup t, .tup s r => .tup s (SnapL.dp R t r)
  | _, _, _, .rls t, .rls s r => .lst s.sq (SnapL.dp R t r)
  | _, _, _, .lst h t, .ref _ => by
    obtain ⟨vs, h1, h2⟩ := R.ls h
    exact .lst h1 (SnapL.dp R t h2)
theorem SnapL.dp {H : Hp} {C : CH} (R : Rel K cl H C) : ∀ {d : List D} {p : List PyData} {v : List V}, SnapL C d p → RepL K H d v → DpAll K H v p
  | _, _, _, .nil, .nil => .nil
  | _, _, _, .cons a b, .cons r s => .cons (Snap.dp R a r) (SnapL.dp R b s)
end
def oEq (f : Bool → Bool) : O2 := fun x y C Q => ∃ p q, Snap C x p ∧ Snap C y q ∧ SeqAt.shaped p = true ∧ SeqAt.shaped q = true ∧ Q (.bl (f (PyData.eqv p q))) C
theorem lk_eq : Lk2 K cl (rEqD K) (oEq id) := fun H C d e v u Q Qc rd re R ⟨p, q, h1, h2, h3, h4, h5⟩ hq => ⟨p, q, h1.dp R rd, h2.dp R re, h3, h4, hq.now h5 (.bl _) R⟩
theorem lk_ne : Lk2 K cl (rNeD K) (oEq not) := fun H C d e v u Q Qc rd re R ⟨p, q, h1, h2, h3, h4, h5⟩ hq => ⟨p, q, h1.dp R rd, h2.dp R re, h3, h4, hq.now h5 (.bl _) R⟩
/-- in, not in a list of anything -/
def oInD (f : Bool → Bool) : O2 := fun x y C Q => ∃ a p ds ps, y = .ref a ∧ LsC C a ds ∧ Snap C x p ∧ SnapL C ds ps ∧ SeqAt.shaped p = true ∧ SeqAt.shaped (.list ps) = true ∧ Q (.bl (f (ps.any fun z => PyData.eqv z p))) C
theorem lk_inD : Lk2 K cl (rInD K) (oInD id) := fun H C d e v u Q Qc rd re R ⟨a, p, ds, ps, h1, h2, h3, h4, h5, h6, h7⟩ hq => by
  subst h1
  exact ⟨p, ps, h3.dp R rd, (Snap.lst h2 h4).dp R re, h5, h6, hq.now h7 (.bl _) R⟩
theorem lk_notInD : Lk2 K cl (rNotInD K) (oInD not) := fun H C d e v u Q Qc rd re R ⟨a, p, ds, ps, h1, h2, h3, h4, h5, h6, h7⟩ hq => by
  subst h1
  exact ⟨p, ps, h3.dp R rd, (Snap.lst h2 h4).dp R re, h5, h6, hq.now h7 (.bl _) R⟩
/-- in, not in a list or tuple of flat things -/
def flatD : D → Bool
  | .non | .bl _ | .int _ | .str _ => true
  | _ => false
def toV : D → V
  | .non => .non
  | .bl b => .bl b
  | .int i => .int i
  | .str x => .str x
  | _ => .non
theorem flat_rep {H : Hp} {d : D} {v : V} (r : Rep K H d v) (f : flatD d = true) : v = toV d ∧ flatV v = true := by
  cases r <;> first | exact ⟨rfl, rfl⟩ | (simp [flatD] at f)
theorem flat_reps {H : Hp} : ∀ {ds : List D} {vs : List V}, RepL K H ds vs → ds.all flatD = true → vs = ds.map toV ∧ vs.all flatV = true
  | _, _, .nil, _ => ⟨rfl, rfl⟩
  | _, _, .cons r t, f => by
    rw [List.all_cons, Bool.and_eq_true] at f
    obtain ⟨e1, f1⟩ := flat_rep r f.1
    obtain ⟨e2, f2⟩ := flat_reps t f.2
    refine ⟨by rw [e1, e2]; rfl, ?_⟩
    rw [List.all_cons, f1, f2]; rfl
def oInF (f : Bool → Bool) : O2 := fun x y C Q => ∃ ds, SqC C y ds ∧ flatD x = true ∧ ds.all flatD = true ∧ Q (.bl (f (inV (toV x) (ds.map toV)))) C
theorem lk_inF : Lk2 K cl (rIn K false) (oInF id) := fun H C d e v u Q Qc rd re R ⟨ds, h1, h2, h3, q⟩ hq => by
  obtain ⟨p, vs, rfl, h, rr⟩ := R.sq h1 re
  obtain ⟨e1, f1⟩ := flat_rep rd h2
  obtain ⟨e2, f2⟩ := flat_reps rr h3
  exact ⟨p, vs, rfl, h, f1, f2, hq.now (by rw [e1, e2]; exact q) (.bl _) R⟩
theorem lk_notInF : Lk2 K cl (rIn K true) (oInF not) := fun H C d e v u Q Qc rd re R ⟨ds, h1, h2, h3, q⟩ hq => by
  obtain ⟨p, vs, rfl, h, rr⟩ := R.sq h1 re
  obtain ⟨e1, f1⟩ := flat_rep rd h2
  obtain ⟨e2, f2⟩ := flat_reps rr h3
  exact ⟨p, vs, rfl, h, f1, f2, hq.now (by rw [e1, e2]; exact q) (.bl _) R⟩
/-- one sign in a text -/
def oInS (f : Bool → Bool) : O2 := fun x y C Q => ∃ (c : Nat) (z : Str), x = .str ⟨#[c]⟩ ∧ y = .str z ∧ Q (.bl (f (decide (c ∈ z.cps.toList)))) C
theorem lk_inS : Lk2 K cl (fun x y H Q => ∃ (c : Nat) (z : Str), x = .str ⟨#[c]⟩ ∧ y = .str z ∧ Q (.bl (decide (c ∈ z.cps.toList))) H) (oInS id) := fun H C d e v u Q Qc rd re R ⟨c, z, h1, h2, q⟩ hq => by
  subst h1; subst h2
  cases rd; cases re
  exact ⟨c, z, rfl, rfl, hq.now q (.bl _) R⟩
theorem lk_notInS : Lk2 K cl (fun x y H Q => ∃ (c : Nat) (z : Str), x = .str ⟨#[c]⟩ ∧ y = .str z ∧ Q (.bl (!decide (c ∈ z.cps.toList))) H) (oInS not) := fun H C d e v u Q Qc rd re R ⟨c, z, h1, h2, q⟩ hq => by
  subst h1; subst h2
  cases rd; cases re
  exact ⟨c, z, rfl, rfl, hq.now q (.bl _) R⟩
/-- is None, is not None -/
def isNon : D → Bool
  | .non => true
  | _ => false
def oIs (f : Bool → Bool) : O2 := fun x y C Q => y = .non ∧ Q (.bl (f (isNon x))) C
theorem isNon_rep {H : Hp} {d : D} {v : V} (r : Rep K H d v) : decide (v = .non) = isNon d := by cases r <;> rfl
theorem lk_is : Lk2 K cl (fun x y H Q => y = .non ∧ Q (.bl (decide (x = .non))) H) (oIs id) := fun H C d e v u Q Qc rd re R ⟨h, q⟩ hq => by
  subst h
  cases re
  exact ⟨rfl, hq.now (by rw [isNon_rep rd]; exact q) (.bl _) R⟩
theorem lk_isnot : Lk2 K cl (fun x y H Q => y = .non ∧ Q (.bl (!decide (x = .non))) H) (oIs not) := fun H C d e v u Q Qc rd re R ⟨h, q⟩ hq => by
  subst h
  cases re
  exact ⟨rfl, hq.now (by rw [isNon_rep rd]; exact q) (.bl _) R⟩
end
end L3

namespace L3
open PySem L2
section
variable {X : Cx} {cl : ClsT} {H0 : Hp} {C0 : CH} {e st : Expr} {s1 : Stmt} {rest : List Stmt} {ca : CTE} {ct : CTT} {c d : CTS} {pos : Pos}
def sNext : CTS := fun D σ C => D.nx σ C
def sSeq (c d : CTS) : CTS := fun D σ C => c { D with nx := d D } σ C
theorem EndS.seq {K : PySem.W.Frag} {H : Hp} {C : CH} {σ : St} {σc : Env3} {Dc : EndsC} {D : Ends} (hq : EndS K cl H C Dc D) (S : Keep H0 C0 H C) : EndS K cl H C { Dc with nx := d Dc } { D with nx := tS K cl H0 C0 d D } :=
  ⟨fun σc' C' σ' H' q r R k => ⟨σc', C', Dc, ⟨r, R, S.trans k⟩, q, hq.from_ k⟩, hq.rt, hq.bk, hq.ct⟩
theorem cpss_nil : CPSs X cl H0 C0 [] sNext := pss_nil.imp fun D σ H ⟨σc, C, Dc, S, h, hq⟩ => hq.nx _ _ _ _ h S.s S.r Keep.refl
theorem cpss_cons (h1 : CPS X cl H0 C0 s1 c) (h2 : CPSs X cl H0 C0 rest d) : CPSs X cl H0 C0 (s1 :: rest) (sSeq c d) :=
  (pss_cons h1 h2).imp fun D σ H ⟨σc, C, Dc, S, h, hq⟩ => ⟨σc, C, _, S, h, hq.seq (σ := σ) (σc := σc) S.f⟩
def sBreak : CTS := fun D σ C => D.bk σ C
def sCont : CTS := fun D σ C => D.ct σ C
theorem cps_pass : CPS X cl H0 C0 (.Pass pos) sNext := ps_pass.imp fun D σ H ⟨σc, C, Dc, S, h, hq⟩ => hq.nx _ _ _ _ h S.s S.r Keep.refl
theorem cps_break : CPS X cl H0 C0 (.Break pos) sBreak := ps_break.imp fun D σ H ⟨σc, C, Dc, S, h, hq⟩ => hq.bk _ _ _ _ h S.s S.r Keep.refl
theorem cps_cont : CPS X cl H0 C0 (.Continue pos) sCont := ps_continue.imp fun D σ H ⟨σc, C, Dc, S, h, hq⟩ => hq.ct _ _ _ _ h S.s S.r Keep.refl
def sDrop (a : CTE) : CTS := fun D σ C => a σ C fun _ C1 => D.nx σ C1
theorem cps_expr (he : CPE X cl H0 C0 e ca) (hs : swapsWith e none pos.line X.env = pure false) : CPS X cl H0 C0 (.Expr e pos) (sDrop ca) :=
  (ps_expr he hs).imp fun D σ H ⟨σc, C, Dc, S, h, hq⟩ => ⟨σc, C, _, S, h, fun d C1 v H1 h1 rv R1 k1 => hq.nx _ _ _ _ h1 (S.s.keep S.r k1) R1 k1⟩
def sRet (a : CTE) : CTS := fun D σ C => a σ C D.rt
theorem cps_ret (he : CPE X cl H0 C0 e ca) : CPS X cl H0 C0 (.Return (some e) pos) (sRet ca) :=
  (ps_ret he).imp fun D σ H ⟨σc, C, Dc, S, h, hq⟩ => ⟨σc, C, _, S, h, hq.rt⟩
def sRetN : CTS := fun D _ C => D.rt .non C
theorem cps_retN : CPS X cl H0 C0 (.Return none pos) sRetN := ps_retN.imp fun D σ H ⟨σc, C, Dc, S, h, hq⟩ => hq.rt.now h .non S.r
def sIf (t : CTT) (c d : CTS) : CTS := fun D σ C => t σ C fun b C1 => if b = true then c D σ C1 else d D σ C1
theorem cps_if {a b : List Stmt} (ht : CPT X cl H0 C0 e ct) (ha : CPSs X cl H0 C0 a c) (hb : CPSs X cl H0 C0 b d) : CPS X cl H0 C0 (.If e a b pos) (sIf ct c d) :=
  (ps_if ht ha hb).imp fun D σ H ⟨σc, C, Dc, S, h, hq⟩ => ⟨σc, C, _, S, h, fun z C1 H1 h1 R1 k1 => by
    cases z with
    | true => exact iteT ⟨σc, C1, Dc, S.step k1 R1, h1, hq.from_ k1⟩
    | false => exact iteF ⟨σc, C1, Dc, S.step k1 R1, h1, hq.from_ k1⟩⟩
def sNever : CTS := fun _ _ _ => False
theorem cps_never : CPS X cl H0 C0 s1 sNever := ps_never.imp fun D σ H ⟨σc, C, Dc, S, h, hq⟩ => h
end
/-! ### targets -/
abbrev CTG := D → Env3 → CH → (Env3 → CH → Prop) → Prop
abbrev CTGs := List D → Env3 → CH → (Env3 → CH → Prop) → Prop
def tG (K : PySem.W.Frag) (cl : ClsT) (g : CTG) : TG := fun v σ H Q => ∃ d σc C Qc, Rep K H d v ∧ RepS K H σc σ ∧ Rel K cl H C ∧ g d σc C Qc ∧ EndN K cl H C Qc Q
def tGs (K : PySem.W.Frag) (cl : ClsT) (g : CTGs) : TGs := fun v σ H Q => ∃ d σc C Qc, RepL K H d v ∧ RepS K H σc σ ∧ Rel K cl H C ∧ g d σc C Qc ∧ EndN K cl H C Qc Q
theorem _root_.L2.PG.imp {X : Cx} {e : Expr} {t t' : TG} (h : PG X e t) (i : ∀ v σ H Q, t' v σ H Q → t v σ H Q) : PG X e t' := ⟨fun pins s σ H v u Q I r q => h.run pins s σ H v u Q I r (i _ _ _ _ q)⟩
theorem _root_.L2.PGs.imp {X : Cx} {e : List Expr} {t t' : TGs} (h : PGs X e t) (i : ∀ v σ H Q, t' v σ H Q → t v σ H Q) : PGs X e t' := ⟨fun pins s σ H v u Q I r q => h.run pins s σ H v u Q I r (i _ _ _ _ q)⟩
def CPG (X : Cx) (cl : ClsT) (e : Expr) (g : CTG) : Prop := PG X e (tG X.K cl g)
def CPGs (X : Cx) (cl : ClsT) (e : List Expr) (g : CTGs) : Prop := PGs X e (tGs X.K cl g)
def hName (i : Nat) : CTG := fun d σ C Q => Q (σ.set i (some d)) C
def hNil : CTGs := fun ds σ C Q => ds = [] ∧ Q σ C
def hCons (g : CTG) (r : CTGs) : CTGs := fun ds σ C Q => ∃ d t, ds = d :: t ∧ g d σ C fun σ' C' => r t σ' C' Q
def hTup (n : Nat) (g : CTGs) : CTG := fun d σ C Q => ∃ ds, d = .tup ds ∧ ds.length = n ∧ g ds σ C Q
section
variable {X : Cx} {cl : ClsT} {H0 : Hp} {C0 : CH} {pos : Pos}
theorem cpg_name {i : Nat} {x : Str} (hN : X.N.Nodup) (hi : X.N[i]? = some x) (hx : Loc X.env.scope x) (hf : X.fn x = true ∨ X.env.scope.names.lookup x = some .local) : CPG X cl (.Name x pos) (hName i) :=
  (pg_name hN hi hx hf).imp fun v σ H Q ⟨d, σc, C, Qc, r, s, R, h, hq⟩ => hq _ _ _ _ h (s.set r i) R Keep.refl
theorem cpgs_nil : CPGs X cl [] hNil := pgs_nil.imp fun v σ H Q ⟨d, σc, C, Qc, r, s, R, ⟨h1, h2⟩, hq⟩ => by
  subst h1
  exact ⟨r.nil_inv, hq _ _ _ _ h2 s R Keep.refl⟩
theorem cpgs_cons {e : Expr} {es : List Expr} {g : CTG} {gs : CTGs} (h1 : CPG X cl e g) (h2 : CPGs X cl es gs) (hs : (assignEach (e :: es) X.env).map (·.2) = assign e X.env :: (assignEach es X.env).map (·.2)) : CPGs X cl (e :: es) (hCons g gs) :=
  (pgs_cons h1 h2 hs).imp fun v σ H Q ⟨ds, σc, C, Qc, r, s, R, ⟨d, t, h1, h2⟩, hq⟩ => by
    subst h1
    cases r with
    | cons r rr =>
      exact ⟨_, _, rfl, d, σc, C, _, r, s, R, h2, fun σc' C' σ' H' q s' R' k => ⟨t, σc', C', Qc, rr.keep R k, s', R', q, hq.from_ k⟩⟩
theorem cpg_tup {es : List Expr} {k : Nat} {g : CTGs} {n : Nat} (hc : X.calm = true) (h : CPGs X cl es g) (hn : (assignEach es X.env).length = n) (hst : (assignEach es X.env).findIdx? (·.1) = none) : CPG X cl (.Tuple es k pos) (hTup n g) :=
  (pg_tup hc h hn hst).imp fun v σ H Q ⟨d, σc, C, Qc, r, s, R, ⟨ds, h1, h2, h3⟩, hq⟩ => by
    subst h1
    cases r with
    | tup sq rr => exact ⟨_, _, rfl, sq, by rw [← rr.length]; exact h2, ds, σc, C, Qc, rr, s, R, h3, hq⟩
/-- target = value -/
def sAsg (a : CTE) (g : CTG) : CTS := fun D σ C => a σ C fun d C1 => g d σ C1 D.nx
theorem tAsg_of {ca : CTE} {g : CTG} : ∀ D σ H, tS X.K cl H0 C0 (sAsg ca g) D σ H → tAsg (tE X.K cl H0 C0 ca) (tG X.K cl g) D σ H := fun D σ H ⟨σc, C, Dc, S, h, hq⟩ =>
  ⟨σc, C, _, S, h, fun d C1 v H1 h1 rv R1 k1 => ⟨d, σc, C1, _, rv, S.s.keep S.r k1, R1, h1, hq.nx.from_ k1⟩⟩
theorem cps_asg {tg e : Expr} {ca : CTE} {g : CTG} (he : CPE X cl H0 C0 e ca) (hg : CPG X cl tg g) (hs : swapsWithSole [tg] e pos.line X.env = pure false) (hw : swappedStores [tg] e X.env = pure none)
    (h1 : (assignEach [tg] X.env).map (·.2) = [assign tg X.env]) : CPS X cl H0 C0 (.Assign [tg] e pos) (sAsg ca g) := (ps_asg he hg hs hw h1).imp tAsg_of
theorem cps_set {i : Nat} {x : Str} {e : Expr} {ca : CTE} {pos' : Pos} (hN : X.N.Nodup) (hi : X.N[i]? = some x) (hx : Loc X.env.scope x) (he : CPE X cl H0 C0 e ca) (hs : swapsWith e (some (.Name x pos')) pos.line X.env = pure false) (hf : X.fn x = true ∨ X.env.scope.names.lookup x = some .local) :
    CPS X cl H0 C0 (.Assign [.Name x pos'] e pos) (sAsg ca (hName i)) :=
  (ps_set hN hi hx he hs hf).imp fun D σ H ⟨σc, C, Dc, S, h, hq⟩ => ⟨σc, C, _, S, h, fun d C1 v H1 h1 rv R1 k1 => hq.nx _ _ _ _ h1 ((S.s.keep S.r k1).set rv i) R1 k1⟩
/-- a, b = x, y with plain local names -/
def sPar (i j : Nat) (a : CTA) : CTS := fun D σ C => a σ C fun ds C1 => ∃ d e, ds = [d, e] ∧ D.nx ((σ.set i (some d)).set j (some e)) C1
theorem cps_par {i j : Nat} {x y : Str} {a b : Expr} {cs : CTA} {px py pt : Pos} {kt k2 pt2} (hc : X.calm = true) (hN : X.N.Nodup) (hi : X.N[i]? = some x) (hj : X.N[j]? = some y) (hij : i ≠ j)
    (hx : X.env.scope.names.lookup x = some .local) (hy : X.env.scope.names.lookup y = some .local) (ha : CPA X cl H0 C0 [a, b] cs)
    (hw : swappedStores [.Tuple [.Name x px, .Name y py] kt pt] (.Tuple [a, b] k2 pt2) X.env = pure (some [x, y]))
    (hs : swapsWithSole [.Tuple [.Name x px, .Name y py] kt pt] (.Tuple [a, b] k2 pt2) pos.line X.env = pure false) :
    CPS X cl H0 C0 (.Assign [.Tuple [.Name x px, .Name y py] kt pt] (.Tuple [a, b] k2 pt2) pos) (sPar i j cs) :=
  (ps_par hc hN hi hj hij hx hy ha hw hs).imp fun D σ H ⟨σc, C, Dc, S, h, hq⟩ => ⟨σc, C, _, S, h, fun ds C1 vs H1 ⟨d, e, h1, h2⟩ rs R1 k1 => by
    subst h1
    obtain ⟨v, u, rfl, r1, r2⟩ := rs.two
    exact ⟨v, u, rfl, hq.nx _ _ _ _ h2 (((S.s.keep S.r k1).set r1 i).set r2 j) R1 k1⟩⟩
/-- o[i] = v -/
abbrev O3 := D → D → D → CH → (CH → Prop) → Prop
def LkSet (K : PySem.W.Frag) (cl : ClsT) (r : TSet) (o : O3) : Prop := ∀ H C d e z v u w Q Qc, Rep K H d v → Rep K H e u → Rep K H z w → Rel K cl H C → o d e z C Qc → (∀ C' H', Qc C' → Rel K cl H' C' → Keep H C H' C' → Q H') → r v u w H Q
def sSet (a o i : CTE) (f : O3) : CTS := fun D σ C => a σ C fun z C1 => o σ C1 fun d C2 => i σ C2 fun e C3 => f d e z C3 fun C4 => D.nx σ C4
theorem cps_sub {o i e : Expr} {co ci ca : CTE} {r : TSet} {f : O3} {pos' : Pos} (ho : CPE X cl H0 C0 o co) (hi : CPE X cl H0 C0 i ci) (he : CPE X cl H0 C0 e ca) (hset : PSet X r) (l : LkSet X.K cl r f)
    (ha : ∀ v, assign (.Subscript o i pos') X.env v = (do
      let ov ← holding [v] (eval o X.env)
      let iv ← holding [v, ov] (eval i X.env)
      standAt pos'
      holding [v, ov, iv] (setItem ov iv v)
      release [v, ov, iv] []))
    (hs : swapsWithSole [.Subscript o i pos'] e pos.line X.env = pure false) (hw : swappedStores [.Subscript o i pos'] e X.env = pure none)
    (h1 : (assignEach [.Subscript o i pos'] X.env).map (·.2) = [assign (.Subscript o i pos') X.env]) : CPS X cl H0 C0 (.Assign [.Subscript o i pos'] e pos) (sSet ca co ci f) :=
  (ps_asg he (pg_sub ho hi hset ha) hs hw h1).imp fun D σ H ⟨σc, C, Dc, S, h, hq⟩ =>
    ⟨σc, C, _, S, h, fun z C1 w H1 h1 rz R1 k1 => ⟨σc, C1, _, S.step k1 R1, h1, fun d C2 v H2 h2 rd R2 k2 => ⟨σc, C2, _, (S.step k1 R1).step k2 R2, h2, fun e C3 u H3 h3 re R3 k3 =>
      l H3 C3 d e z v u w _ _ (rd.keep R2 k3) re ((rz.keep R1 k2).keep R2 k3) R3 h3 fun C4 H4 h4 R4 k4 => hq.nx _ _ _ _ h4 ((((S.step k1 R1).step k2 R2).step k3 R3).step k4 R4).s R4 (((k1.trans k2).trans k3).trans k4)⟩⟩⟩
def oSetL : O3 := fun x y z C Q => ∃ p ds i j, x = .ref p ∧ y = .int i ∧ C p = some (.lst ds) ∧ ixN ds.length i = some j ∧ Q (cup C p (.lst (ds.set j z)))
theorem lk_setL {K : PySem.W.Frag} : LkSet K cl rSetL oSetL := fun H C d e z v u w Q Qc rd re rz R ⟨p, ds, i, j, h1, h2, h3, h4, q⟩ hq => by
  subst h1; subst h2
  cases rd; cases re
  obtain ⟨vs, e1, r1⟩ := R p _ h3
  exact ⟨p, vs, i, j, rfl, rfl, e1, by rw [← r1.length]; exact h4, hq _ _ q (R.wlst h3 e1 (r1.set rz j)) (Keep.write h3 _ _)⟩
end
section
variable {K : PySem.W.Frag} {cl : ClsT} {H : Hp} {C : CH}
theorem RepF.put {kvs : List (Key × D)} {vs : List (Key × V)} (h : RepF K H kvs vs) (k : Key) {d : D} {v : V} (r : Rep K H d v) : RepF K H (putC kvs k d) (putK vs k v) := by
  have e : (vs.any fun kv => decide (kv.1 = k)) = (kvs.any fun kv => decide (kv.1 = k)) := by
    induction h with
    | nil => rfl
    | cons r' t ih => rw [List.any_cons, List.any_cons, ih]
  unfold putC putK
  rw [e]
  split
  · clear e
    rename_i hc
    clear hc
    induction h with
    | nil => exact .nil
    | @cons k' d' v' ds' vs' r' t ih =>
      rw [List.map_cons, List.map_cons]
      by_cases hk : k' = k
      · rw [if_pos hk, if_pos hk]; exact .cons r ih
      · rw [if_neg hk, if_neg hk]; exact .cons r' ih
  · clear e
    rename_i hc
    clear hc
    induction h with
    | nil => exact .cons r .nil
    | cons r' t ih => exact .cons r' ih
def oSetD : O3 := fun x y z C Q => ∃ p kvs k, x = .ref p ∧ C p = some (.dic kvs) ∧ keyD y = some k ∧ kvs.length < sizeLine ∧ Q (cup C p (.dic (putC kvs k z)))
theorem lk_setD : LkSet K cl rSetD oSetD := fun H C d e z v u w Q Qc rd re rz R ⟨p, kvs, k, h1, h2, h3, h4, q⟩ hq => by
  subst h1
  cases rd
  obtain ⟨vs, e1, r1⟩ := R p _ h2
  have e3 := keyD_rep h3 re
  subst e3
  refine ⟨p, _, rfl, DPut.k e1 (by rw [← r1.length]; exact h4), hq _ _ q (R.write h2 e1 (fun xs h => by rcases h with h | ⟨z, h⟩ <;> (rw [e1] at h; cases h)) ⟨_, upd_same, (r1.put k rz).keep R (Keep.write h2 _ (.dic (putC kvs k z)))⟩) (Keep.write h2 _ _)⟩
end
/-! ### loops -/
/-- what an iterable yields: the items from turn 0, while the guard stands -/
abbrev CTI := Env3 → CH → (List D → (CH → Prop) → CH → Prop) → Prop
/-- the iterator J yields ds while the guard stands -/
structure ItOk (K : PySem.W.Frag) (cl : ClsT) (H0 : Hp) (C0 : CH) (J : It) (ds : List D) (G : CH → Prop) : Prop where
  go : ∀ (i : Nat) (H : Hp) (C : CH), Keep H0 C0 H C → Rel K cl H C → G C → i < ds.length → J.go i H
  yld : ∀ (i : Nat) (H : Hp) (C : CH) (x : V) (H' : Hp), Keep H0 C0 H C → Rel K cl H C → G C → J.yld i H x H' → ∀ d, ds[i]? = some d → Rep K H' d x ∧ Rel K cl H' C ∧ Keep H C H' C
  stop : ∀ (i : Nat) (H : Hp) (C : CH), Keep H0 C0 H C → Rel K cl H C → G C → ds.length ≤ i → J.stop i H
def tI (K : PySem.W.Frag) (cl : ClsT) (H0 : Hp) (C0 : CH) (c : CTI) : TI := fun σ H R => ∃ σc C Qc, S3 K cl H0 C0 σ H σc C ∧ c σc C Qc ∧ ∀ ds G C1 H1 J, Qc ds G C1 → Rel K cl H1 C1 → Keep H C H1 C1 → ItOk K cl H1 C1 J ds G → R J H1
theorem _root_.L2.PI.imp {X : Cx} {tg e : Expr} {t t' : TI} (h : PI X tg e t) (i : ∀ σ H Q, t' σ H Q → t σ H Q) : PI X tg e t' := ⟨fun pins s σ H Q I q => h.run pins s σ H Q I (i _ _ _ q)⟩
def CPI (X : Cx) (cl : ClsT) (H0 : Hp) (C0 : CH) (tg e : Expr) (c : CTI) : Prop := PI X tg e (tI X.K cl H0 C0 c)
/-- for: one turn after another -/
def forL (g : CTG) (b : CTS) (G : CH → Prop) (E : EndsC) : List D → Env3 → CH → Prop
  | [], σ, C => G C ∧ E.nx σ C
  | d :: r, σ, C => G C ∧ g d σ C fun σ1 C1 => b { E with nx := forL g b G E r, ct := forL g b G E r, bk := E.nx } σ1 C1
def sFor (it : CTI) (g : CTG) (b : CTS) : CTS := fun D σ C => it σ C fun ds G C1 => forL g b G D ds σ C1
section
variable {X : Cx} {cl : ClsT} {H0 : Hp} {C0 : CH} {pos : Pos}
theorem cps_for {tg iter : Expr} {body : List Stmt} {it : CTI} {g : CTG} {b : CTS} (hp : PassesOwn (model X.prog X.w) X.A X.env X.xe) (hc : X.calm = true) (hi : CPI X cl H0 C0 tg iter it) (hg : CPG X cl tg g) (hb : CPSs X cl H0 C0 body b)
    (hs : ∀ x, foldedSetIterable iter X.env x = pure x) : CPS X cl H0 C0 (.For tg iter body [] pos) (sFor it g b) :=
  (ps_for hp hc hi hg hb hs).imp fun D σ H ⟨σc, C, Dc, S, h, hq⟩ => ⟨σc, C, _, S, h, fun ds G C1 H1 J h1 R1 k1 ok => by
    refine ⟨fun i m σ' H' => m = ds.length - i ∧ i ≤ ds.length ∧ ∃ σc' C', RepS X.K H' σc' σ' ∧ Rel X.K cl H' C' ∧ Keep H1 C1 H' C' ∧ forL g b G Dc (ds.drop i) σc' C', ⟨ds.length, by simp, Nat.zero_le _, σc, C1, S.s.keep S.r k1, R1, Keep.refl, h1⟩, ?_⟩
    rintro i m σ' H' ⟨rfl, hi, σc', C', s', R', k', hl⟩
    by_cases hlt : i < ds.length
    · rw [List.drop_eq_getElem_cons hlt] at hl
      obtain ⟨hG, hl⟩ := hl
      refine .inr ⟨ok.go i H' C' k' R' hG hlt, fun σ2 H2 => ∃ σc2 C2, RepS X.K H2 σc2 σ2 ∧ Rel X.K cl H2 C2 ∧ Keep H1 C1 H2 C2 ∧ forL g b G Dc (ds.drop (i + 1)) σc2 C2, fun σ2 H2 ⟨σc2, C2, s2, R2, k2, l2⟩ => ⟨ds.length - (i + 1), by omega, rfl, hlt, σc2, C2, s2, R2, k2, l2⟩, fun x H2 hy => ?_⟩
      obtain ⟨rx, R2, k2⟩ := ok.yld i H' C' x H2 k' R' hG hy _ (List.getElem?_eq_getElem hlt)
      refine ⟨_, σc', C', _, rx, s'.keep R' k2, R2, hl, fun σc3 C3 σ3 H3 h3 s3 R3 k3 => ?_⟩
      have kk : Keep H C H3 C3 := ((k1.trans k').trans k2).trans k3
      refine ⟨σc3, C3, _, ⟨s3, R3, S.f.trans kk⟩, h3, ?_⟩
      have again : EndN X.K cl H3 C3 (forL g b G Dc (ds.drop (i + 1))) fun σ2 H2 => ∃ σc2 C2, RepS X.K H2 σc2 σ2 ∧ Rel X.K cl H2 C2 ∧ Keep H1 C1 H2 C2 ∧ forL g b G Dc (ds.drop (i + 1)) σc2 C2 :=
        fun σc4 C4 σ4 H4 h4 s4 R4 k4 => ⟨σc4, C4, s4, R4, ((k'.trans k2).trans k3).trans k4, h4⟩
      exact ⟨again, hq.rt.from_ kk, hq.nx.from_ kk, again⟩
    · have e : ds.drop i = [] := List.drop_eq_nil_of_le (by omega)
      rw [e] at hl
      exact .inl ⟨ok.stop i H' C' k' R' hl.1 (by omega), hq.nx _ _ _ _ hl.2 s' R' (k1.trans k')⟩⟩
/-- while: at most m turns -/
def whileN (t : CTT) (b : CTS) (D : EndsC) : Nat → Env3 → CH → Prop
  | 0, _, _ => False
  | m + 1, σ, C => t σ C fun k C1 => if k = true then b { D with nx := whileN t b D m, ct := whileN t b D m, bk := D.nx } σ C1 else D.nx σ C1
def sWhile (t : CTT) (b : CTS) : CTS := fun D σ C => ∃ m, whileN t b D m σ C
theorem cps_while {e : Expr} {body : List Stmt} {t : CTT} {b : CTS} (hp : PassesOwn (model X.prog X.w) X.A X.env X.xe) (ht : CPT X cl H0 C0 e t) (hb : CPSs X cl H0 C0 body b) : CPS X cl H0 C0 (.While e body [] pos) (sWhile t b) :=
  (ps_while hp ht hb).imp fun D σ H ⟨σc, C, Dc, S, ⟨m0, h⟩, hq⟩ => by
    refine ⟨fun m σ' H' => ∃ σc' C', RepS X.K H' σc' σ' ∧ Rel X.K cl H' C' ∧ Keep H C H' C' ∧ whileN t b Dc m σc' C', ⟨m0, σc, C, S.s, S.r, Keep.refl, h⟩, ?_⟩
    rintro m σ' H' ⟨σc', C', s', R', k', hl⟩
    cases m with
    | zero => exact hl.elim
    | succ m =>
      refine ⟨σc', C', _, ⟨s', R', S.f.trans k'⟩, hl, fun z C1 H1 h1 R1 k1 => ?_⟩
      have kk := k'.trans k1
      cases z with
      | true =>
        refine iteT ⟨fun σ2 H2 => ∃ σc2 C2, RepS X.K H2 σc2 σ2 ∧ Rel X.K cl H2 C2 ∧ Keep H C H2 C2 ∧ whileN t b Dc m σc2 C2, fun σ2 H2 h2 => ⟨m, Nat.lt_succ_self m, h2⟩, ?_⟩
        have again : EndN X.K cl H1 C1 (whileN t b Dc m) fun σ2 H2 => ∃ σc2 C2, RepS X.K H2 σc2 σ2 ∧ Rel X.K cl H2 C2 ∧ Keep H C H2 C2 ∧ whileN t b Dc m σc2 C2 :=
          fun σc4 C4 σ4 H4 h4 s4 R4 k4 => ⟨σc4, C4, s4, R4, kk.trans k4, h4⟩
        exact ⟨σc', C1, _, ⟨s'.keep R' k1, R1, S.f.trans kk⟩, h1, ⟨again, hq.rt.from_ kk, hq.nx.from_ kk, again⟩⟩
      | false => exact iteF (hq.nx _ _ _ _ h1 (s'.keep R' k1) R1 kk)
end
/-! ### what is walked -/
section
variable {X : Cx} {cl : ClsT} {H0 : Hp} {C0 : CH} {pos : Pos}
/-- a list (as it stands), a tuple -/
def iSeq (a : CTE) : CTI := fun σ C R => a σ C fun d C1 => ∃ ds, ((d = .tup ds ∨ d = .rls ds) ∧ R ds (fun _ => True) C1) ∨ (∃ p, d = .ref p ∧ LsC C1 p ds ∧ R ds (fun C => LsC C p ds) C1)
theorem itOk_tup {K : PySem.W.Frag} {a : Addr} {ds : List D} {vs : List V} {H : Hp} {C : CH} (s : SqT K H a vs) (r : RepL K H ds vs) (R : Rel K cl H C) : ItOk K cl H C (Itt K a) ds (fun _ => True) where
  go := fun i H' C' k R' _ hi => by
    obtain ⟨v, e, _⟩ := r.get (List.getElem?_eq_getElem hi)
    exact ⟨vs, v, SqT.keep R k s, e⟩
  yld := fun i H' C' x H'' k R' _ ⟨e, y⟩ d hd => by
    subst e
    obtain ⟨v, e, rv⟩ := r.get hd
    have := y vs (SqT.keep R k s)
    rw [e] at this; cases this
    exact ⟨rv.keep R k, R', Keep.refl⟩
  stop := fun i H' C' k R' _ hi => ⟨vs, SqT.keep R k s, by rw [← r.length]; exact hi⟩
theorem itOk_lst' {K : PySem.W.Frag} {p : Addr} {ds : List D} {H : Hp} {C : CH} : ItOk K cl H C (Itl K p) ds (fun C => LsC C p ds) where
  go := fun i H' C' k R' hG hi => by
    obtain ⟨vs, s, r⟩ := R'.ls hG
    obtain ⟨v, e, _⟩ := r.get (List.getElem?_eq_getElem hi)
    exact ⟨vs, v, s, e⟩
  yld := fun i H' C' x H'' k R' hG ⟨e, y⟩ d hd => by
    subst e
    obtain ⟨vs, s, r⟩ := R'.ls hG
    obtain ⟨v, e, rv⟩ := r.get hd
    have := y vs s
    rw [e] at this; cases this
    exact ⟨rv, R', Keep.refl⟩
  stop := fun i H' C' k R' hG hi => by
    obtain ⟨vs, s, r⟩ := R'.ls hG
    exact ⟨vs, s, by rw [← r.length]; exact hi⟩
theorem rls_inj {X : Cx} {pins : List (Addr × Obj)} {σ : St} {H : Hp} {s : Shared} {a : Addr} {xs ys : List V} (I : Inv X pins σ H s) (h : RlS X.K H a xs) (h' : SqL X.K H a ys) : xs = ys := I.list_inj h.sq h'
theorem itOk_rls {X : Cx} {pins : List (Addr × Obj)} {σ : St} {H : Hp} {C : CH} {s : Shared} {a : Addr} {ds : List D} {vs : List V} (I : Inv X pins σ H s) (q : RlS X.K H a vs) (r : RepL X.K H ds vs) (R : Rel X.K cl H C) : ItOk X.K cl H C (Itl X.K a) ds (fun _ => True) where
  go := fun i H' C' k R' _ hi => by
    obtain ⟨v, e, _⟩ := r.get (List.getElem?_eq_getElem hi)
    exact ⟨vs, v, (q.keep R k).sq, e⟩
  yld := fun i H' C' x H'' k R' _ ⟨e, y⟩ d hd => by
    subst e
    obtain ⟨v, e, rv⟩ := r.get hd
    have := y vs (q.keep R k).sq
    rw [e] at this; cases this
    exact ⟨rv.keep R k, R', Keep.refl⟩
  stop := fun i H' C' k R' _ hi => ⟨vs, (q.keep R k).sq, by rw [← r.length]; exact hi⟩
theorem _root_.L2.PI.or {X : Cx} {tg e : Expr} {te : TE} {a b : V → Hp → (It → Hp → Prop) → Prop} (h : PI X tg e (fun σ H R => te σ H fun x H1 => a x H1 R)) (h' : PI X tg e (fun σ H R => te σ H fun x H1 => b x H1 R))
    (he : PE X e te) (hv : ∀ (pins : List (Addr × Obj)) (s : Shared) (σ : St) (H : Hp) (x : V) (u : Value) (R : It → Hp → Prop), Inv X pins σ H s → RelV x u → (a x H R ∨ b x H R) → wpAny (model X.prog X.w) X.A (pyIter u) (PIE X pins σ tg R) X.xe s) :
    PI X tg e (fun σ H R => te σ H fun x H1 => a x H1 R ∨ b x H1 R) :=
  ⟨fun pins s σ H R I h => thn (he.run pins s σ H _ I h) fun u s1 ⟨x, H1, I1, r1, q1⟩ => hv pins s1 σ H1 x u R I1 r1 q1⟩
theorem iter_list {tg : Expr} {pins : List (Addr × Obj)} {s : Shared} {σ : St} {H : Hp} {R : It → Hp → Prop} {a : Addr} {xs : List V} (I : Inv X pins σ H s) (hq : SqL X.K H a xs) (q : R (Itl X.K a) H) : wpAny (model X.prog X.w) X.A (pyIter (.ref a)) (PIE X pins σ tg R) X.xe s := by
  obtain ⟨its, rv, p, hz⟩ := I.list hq
  refine wpAny_pyIter_list p.isList ?_
  refine ⟨s.heap.objs.size, [s.heap.objs.size], _, _, H, rfl, I.kept (t' := s.toks) fun b o e => Heap.get?_push_of_some _ e, turn_list a _, ⟨_, Heap.get?_push_size _ rfl, rfl, rfl⟩, fun b hb => ?_, q⟩
  have e : b = s.heap.objs.size := by simpa using hb
  subst e
  exact I.fpOk (Nat.le_refl _) (I.hok.fresh (Nat.le_refl _))
theorem iter_tup {tg : Expr} {pins : List (Addr × Obj)} {s : Shared} {σ : St} {H : Hp} {R : It → Hp → Prop} {a : Addr} {xs : List V} (I : Inv X pins σ H s) (hq : SqT X.K H a xs) (q : R (Itt X.K a) H) : wpAny (model X.prog X.w) X.A (pyIter (.ref a)) (PIE X pins σ tg R) X.xe s := by
  obtain ⟨its, rv, p, hz⟩ := I.tuple hq
  refine wpAny_pyIter_tuple (show s.heap.IsTuple a its.toArray from p) ?_
  refine ⟨s.heap.objs.size, [s.heap.objs.size], _, _, H, rfl, I.kept (t' := s.toks) fun b o e => Heap.get?_push_of_some _ e, turn_tuple a _, ⟨_, Heap.get?_push_size _ rfl, rfl, rfl⟩, fun b hb => ?_, q⟩
  have e : b = s.heap.objs.size := by simpa using hb
  subst e
  exact I.fpOk (Nat.le_refl _) (I.hok.fresh (Nat.le_refl _))
theorem cpi_seq {tg e : Expr} {ca : CTE} (he : CPE X cl H0 C0 e ca) : CPI X cl H0 C0 tg e (iSeq ca) := ⟨fun pins s σ H R I ⟨σc, C, Qc, S, h, hq⟩ =>
  thn (he.run pins s σ H (fun v H1 => ∃ d C1 ds, Rep X.K H1 d v ∧ Rel X.K cl H1 C1 ∧ Keep H C H1 C1 ∧ (((d = .tup ds ∨ d = .rls ds) ∧ Qc ds (fun _ => True) C1) ∨ (∃ p, d = .ref p ∧ LsC C1 p ds ∧ Qc ds (fun C => LsC C p ds) C1))) I
    ⟨σc, C, _, S, h, fun d C1 v H1 ⟨ds, h1⟩ rv R1 k1 => ⟨d, C1, ds, rv, R1, k1, h1⟩⟩) fun u s1 ⟨v, H1, I1, r1, d, C1, ds, rv, R1, k1, h1⟩ => by
    rcases h1 with ⟨rfl | rfl, q⟩ | ⟨p, rfl, hl, q⟩
    · cases rv with
      | tup sq rr =>
        cases r1
        exact iter_tup I1 sq (hq _ _ _ _ _ q R1 k1 (itOk_tup sq rr R1))
    · cases rv with
      | rls sq rr =>
        cases r1
        exact iter_list I1 sq.sq (hq _ _ _ _ _ q R1 k1 (itOk_rls I1 sq rr R1))
    · cases rv
      cases r1
      obtain ⟨vs, sq, rr⟩ := R1.ls hl
      exact iter_list I1 sq (hq _ _ _ _ _ q R1 k1 itOk_lst')⟩
/-- a text, sign by sign -/
def iTxt (a : CTE) : CTI := fun σ C R => a σ C fun d C1 => ∃ z, d = .str z ∧ R (z.cps.toList.map fun c => .str ⟨#[c]⟩) (fun _ => True) C1
theorem cpi_txt {tg e : Expr} {ca : CTE} (he : CPE X cl H0 C0 e ca) : CPI X cl H0 C0 tg e (iTxt ca) :=
  (pi_str he).imp fun σ H R ⟨σc, C, Qc, S, h, hq⟩ => ⟨σc, C, _, S, h, fun d C1 v H1 ⟨z, h1, q⟩ rv R1 k1 => by
    subst h1
    cases rv
    refine ⟨z, rfl, hq _ _ _ _ _ q R1 k1 ⟨fun i H' C' k R' _ hi => ?_, fun i H' C' x H'' k R' _ ⟨e, c, hc, hx⟩ d hd => ?_, fun i H' C' k R' _ hi => ?_⟩⟩
    · show i < z.cps.size
      simpa using hi
    · subst e; subst hx
      rw [List.getElem?_map, Array.getElem?_toList, hc] at hd
      cases hd
      exact ⟨.str _, R', Keep.refl⟩
    · show z.cps.size ≤ i
      simpa using hi⟩
/-- range -/
def rngD (lo : Int) (n : Nat) : List D := (List.range n).map fun (i : Nat) => .int (lo + i)
def iRg1 (a : CTA) : CTI := fun σ C R => a σ C fun ds C1 => ∃ j : Int, ds = [.int j] ∧ -(2 ^ 62) ≤ j ∧ j < 2 ^ 62 ∧ R (rngD 0 j.toNat) (fun _ => True) C1
def iRg2 (a : CTA) : CTI := fun σ C R => a σ C fun ds C1 => ∃ i j : Int, ds = [.int i, .int j] ∧ (-(2 ^ 62) ≤ i ∧ i < 2 ^ 62 ∧ -(2 ^ 62) ≤ j ∧ j < 2 ^ 62) ∧ R (rngD i (j - i).toNat) (fun _ => True) C1
theorem itOk_rng {K : PySem.W.Frag} {lo : Int} {n : Nat} {H : Hp} {C : CH} : ItOk K cl H C (Itr lo n) (rngD lo n) (fun _ => True) where
  go := fun i H' C' k R' _ hi => by
    show i < n
    simpa [rngD] using hi
  yld := fun i H' C' x H'' k R' _ ⟨e, y⟩ d hd => by
    subst e; subst y
    unfold rngD at hd
    rw [List.getElem?_map] at hd
    cases q : (List.range n)[i]? with
    | none => rw [q] at hd; cases hd
    | some j =>
      rw [q] at hd
      have hj : j = i := by
        obtain ⟨hl, e⟩ := List.getElem?_eq_some_iff.mp q
        rw [List.getElem_range] at e
        exact e.symm
      subst hj
      cases hd
      exact ⟨.int _, R', Keep.refl⟩
  stop := fun i H' C' k R' _ hi => by
    show n ≤ i
    simpa [rngD] using hi
theorem cpi_rg1 {tg a : Expr} {ca : CTA} {p pos : Pos} (hg : Gl X "range") (hm : X.mg "range" = none) (ha : CPA X cl H0 C0 [a] ca) (hs : starEach [a] X.env = [(false, eval a X.env)]) : CPI X cl H0 C0 tg (.Call (.Name "range" p) [a] [] pos) (iRg1 ca) :=
  (pi_range1 hg hm ha hs).imp fun σ H R ⟨σc, C, Qc, S, h, hq⟩ => ⟨σc, C, _, S, h, fun ds C1 vs H1 ⟨j, h1, h2, h3, q⟩ rs R1 k1 => by
    subst h1
    obtain ⟨v, rfl, r⟩ := rs.one
    cases r
    exact ⟨j, rfl, h2, h3, hq _ _ _ _ _ q R1 k1 itOk_rng⟩⟩
theorem cpi_rg2 {tg a b : Expr} {ca : CTA} {p pos : Pos} (hg : Gl X "range") (hm : X.mg "range" = none) (ha : CPA X cl H0 C0 [a, b] ca) (hs : starEach [a, b] X.env = [(false, eval a X.env), (false, eval b X.env)]) (hs2 : starEach [b] X.env = [(false, eval b X.env)]) : CPI X cl H0 C0 tg (.Call (.Name "range" p) [a, b] [] pos) (iRg2 ca) :=
  (pi_range2 hg hm ha hs hs2).imp fun σ H R ⟨σc, C, Qc, S, h, hq⟩ => ⟨σc, C, _, S, h, fun ds C1 vs H1 ⟨i, j, h1, h2, q⟩ rs R1 k1 => by
    subst h1
    obtain ⟨v, u, rfl, r, r'⟩ := rs.two
    cases r; cases r'
    exact ⟨i, j, rfl, h2, hq _ _ _ _ _ q R1 k1 itOk_rng⟩⟩
end
end L3

/-! a def's promise where no repr is under way (the stack holds no guard): own forms of FnOk, fn_of, law_call, walk_ofB -/
namespace L3
open PySem L2 PyProof.Rows
section
variable {P : Program} {w : World} {K : PySem.W.Frag} {mg : Str → Option Value} {base : Heap} {CXx : CXT} {k : Nat} {f : Addr} {fd : FuncData} {ps : List Str} {sp : Sp}
structure FnOkG (P : Program) (w : World) (K : PySem.W.Frag) (mg : Str → Option Value) (base : Heap) (CXx : CXT) (k : Nat) (f : Addr) (fd : FuncData) (ps : List Str) (sp : Sp) : Prop where
  len : ∀ vs H Q E, sp vs H Q E → vs.length = ps.length
  run : ∀ (A : Around) (out : List Env) (s : Shared) (H : Hp) (as : Args) (us : List Value) (vs : List V) (Q : VK) (E : XK), Room k A → A.guards = some [] →
    Env0 P w K mg base A out s H → BindsTo s fd as (ps.zip us) → Vals vs us → sp vs H Q E → codeAny (model P w) A (.call (.ref f) as) (CR CXx out P w H s Q E) s
theorem FnOkG.imp {sp' : Sp} (F : FnOkG P w K mg base CXx k f fd ps sp) (h : ∀ vs H Q E, sp' vs H Q E → sp vs H Q E) : FnOkG P w K mg base CXx k f fd ps sp' :=
  ⟨fun _ _ _ _ q => F.len _ _ _ _ (h _ _ _ _ q), fun A out s H as us vs Q E hr hg e0 hb hv q => F.run A out s H as us vs Q E hr hg e0 hb hv (h _ _ _ _ q)⟩
theorem guards_deeper {A : Around} {env : Env} : (A.deeper env).guards = A.guards := rfl
theorem guards_make {A : Around} {C : Addr} {us : List Value} {kw : List (Str × Value)} : (A.under (.builtin "type.__call__" ⟨.ref C :: us, kw⟩)).guards = A.guards := by
  have e : (Code.builtin "type.__call__" ⟨.ref C :: us, kw⟩).guards = [] := if_neg (by show ¬ guardIds.contains "type.__call__" = true; decide)
  unfold Around.under
  simp only [e]
  rfl
/-- the rule for a def, by its body -/
theorem fn_ofG {name qual : Str} {params : Arguments} {body : List Stmt} {scope : Scope} {dV kV doc pm cdv ct oc : Value} {an od : Option Addr} {osl : Array (Option Value)} {N : List Str}
    (lk : K.lookup f = some ⟨oc, od, .func (PySem.W.fnOf name qual params body scope dV kV doc pm an cdv ct), osl⟩) (hcd : PySem.W.codeIn K cdv qual = true) (S : FnScope N ps scope) (len : ∀ vs H Q E, sp vs H Q E → vs.length = ps.length)
    (hb : ∀ (A : Around) (out : List Env) (s : Shared) (H : Hp) (vs : List V) (Q : VK) (E : XK), Room k (A.deeper (envOfC qual scope s.heap.objs.size f cdv)) → A.guards = some [] → sp vs H Q E →
      ∃ t, PSs (cxOf CXx P w K mg base N qual scope f cdv A out s H E) body t ∧ t { nx := fun _ H' => Q .non H', rt := Q } (start N vs) H) :
    FnOkG P w K mg base CXx (k + 1) f (PySem.W.fnOf name qual params body scope dV kV doc pm an cdv ct) ps sp := ⟨len, fun A out s H as us vs Q E room hg e0 bind rv hsp => by
  have inK := e0.mod.kin.keeps fun b o q => (e0.bs b o q).1
  have noLim := e0.mod.nolimit.keeps fun b o q => (e0.bs b o q).1
  have kinds : ∀ y ∈ ps.zip us, scope.names.lookup y.1 = some .local ∨ (scope.names.lookup y.1 = some .cell ∧ ((cellsFrom (s.heap.objs.size + 1) scope.names []).lookup y.1).isSome = true) := by
    rintro ⟨n, v⟩ hy
    refine (S.par n (List.of_mem_zip hy).1).imp id fun q => ⟨q, ?_⟩
    exact PySem.W.cellsFrom_some _ _ _ (.inl q)
  refine codeAny_call_function room.depth (inK _ _ lk) rfl S.co S.gen rfl (PySem.W.codeRec_of inK hcd) (bind _ _ _ _ (wpAny_newFunctionEnv_cells S.kind kinds fun env he s1 x => ?_))
  subst he
  obtain ⟨t, ht, hq⟩ := hb A out s H vs Q E (room.deeper _) hg hsp
  refine ⟨noLim.keeps x.toInCall.keep, codeAny_func (wpAny_mono (ht.run [] s1 _ H _ (inv_start S room.hd e0 (len _ _ _ _ hsp) rv x) hq) (fun fl s' hs => ?_) fun e s' hs => hs)⟩
  cases fl with
  | next =>
    obtain ⟨σ', H', J, q⟩ := hs
    exact ⟨V.non, H', J.os, J.bare, J.base, J.hok, rfl, q⟩
  | ret u =>
    obtain ⟨v, σ', H', J, rv', q⟩ := hs
    exact ⟨v, H', J.os, J.bare, J.base, J.hok, rv', q⟩
  | brk => exact hs.elim fun _ h => h.elim fun _ h => h.2.elim
  | cont => exact hs.elim fun _ h => h.elim fun _ h => h.2.elim⟩
end
/-- the law's call, from its def's promise -/
theorem law_callG {P : Program} {w : World} {K : PySem.W.Frag} {mg mb : Str → Option Value} {CXx : CXT} {k : Nat} {fa a : Addr} {fd : FuncData} {x : Str} {sp : Sp} {s₁ : Shared} {vs : List Value} {ns : List Int} (KX : K.In s₁.heap) (hns : s₁.heap.Ns mainGlobals mg)
    (hbn : s₁.heap.Ns builtinsNs mb) (hbb : ∀ y : Str, y ≠ "__name__" → mb y = bootBuiltins y) (lim : s₁.heap.NoLimit) (gens : s₁.gens = #[]) (ha : s₁.heap.get? a = some { cls := .type "list", data := .seq vs.toArray }) (hi : IntsAre vs ns) (hl : ns.length ≤ sizeLine)
    (room : Room k callerA) (F : ∀ base : Heap, K.In base → base.Ns mainGlobals mg → FnOkG P w K mg base CXx k fa fd [x] sp) (bind : ∀ (s : Shared) (u : Value), BindsTo s fd ⟨[u], []⟩ [(x, u)])
    (hsp : ∀ H : Hp, Only H → SqL K H a (ns.map V.int) → sp [.ref a] H (fun v _ => v = .bl true) fun _ _ _ => False) (hCX : ∀ H e s', CXx [] H s₁ (fun _ _ _ => False) e s' → False) :
    codeAny (model P w) callerA (.call (.ref fa) ⟨[.ref a], []⟩) (fun r s' => r = .ok (.ret (.bool true)) ∧ OldK s₁.heap s'.heap ∧ s'.os = s₁.os ∧ AllBare s'.gens) s₁ := by
  have rv := vals_ints hi
  have lenV := hi.length
  have main : ∀ H : Hp, Only H → SqL K H a (ns.map V.int) → HOk P w H s₁.heap → (∀ b u, H b = some u → b = a ∧ K.lookup a = none) →
      codeAny (model P w) callerA (.call (.ref fa) ⟨[.ref a], []⟩) (fun r s' => r = .ok (.ret (.bool true)) ∧ OldK s₁.heap s'.heap ∧ s'.os = s₁.os ∧ AllBare s'.gens) s₁ := by
    intro H only sq hok one
    have hid : ∀ {b : Addr} {o : Obj}, s₁.heap.get? b = some o → H b = none → (hidT s₁.heap H).get? b = some o := fun e n => hidT_get e n
    have hids : ∀ {b : Addr} {m : Str → Option Value}, s₁.heap.Ns b m → (hidT s₁.heap H).Ns b m := by
      rintro b m ⟨o, es, ep, e, d, r⟩
      refine ⟨o, es, ep, hid e ?_, d, r⟩
      cases q : H b with
      | none => rfl
      | some u =>
        have e' := (one b u q).1
        rw [e', ha] at e
        cases e
        have z : Data.seq vs.toArray _ = Data.dict es ep := d
        cases z
    have hKb : K.In (hidT s₁.heap H) := fun b o e => hid (KX b o e) (by
      cases q : H b with
      | none => rfl
      | some u =>
        obtain ⟨e', z⟩ := one b u q
        rw [e', z] at e
        cases e)
    have e0 : Env0 P w K mg (hidT s₁.heap H) callerA [] s₁ H := by
      refine ⟨rfl, ⟨hKb, hids hns, ⟨mb, hids hbn, hbb⟩, ?_⟩, fun b o e => of_hidT e, Nat.le_of_eq (hidT_size _ _), trivial, fun b hb => (nomatch (show b ∈ ([] : List Addr) from hb)), hok, .of_eq gens⟩
      obtain ⟨mc, h1, h2⟩ := lim
      exact ⟨mc, hids h1, h2⟩
    refine codeAny_mono ((F _ hKb (hids hns)).run callerA [] s₁ H _ [.ref a] [.ref a] _ _ room rfl e0 (bind s₁ (.ref a)) (.cons rfl .nil) (hsp H only sq)) fun r s' h => ?_
    match r, h with
    | .error e, h => exact (hCX H e s' h).elim
    | .ok (.ret u), ⟨v, H', os, bare, un, hok', r', q⟩ =>
      have q' : v = .bl true := q
      subst q'
      cases (show u = Value.bool true from r')
      refine ⟨rfl, OldK.of_keep fun b o e => ?_, os, bare⟩
      cases q : H b with
      | none => exact un.keep b o e q (fun z => (nomatch (show b ∈ ([] : List Addr) from z))) (by simp)
      | some u =>
        rcases only b with z | ⟨ob, xs, z⟩
        · rw [z] at q; cases q
        · have e1 := (hok b _ z).1
          have e2 := (hok' b _ (un.frzs b ob _ z)).1
          rw [e1] at e; cases e
          exact e2
  cases hk : K.lookup a with
  | some o =>
    have e := KX a o hk
    rw [ha] at e
    cases e
    refine main (fun _ => none) (fun _ => .inl rfl) (.inr ⟨_, vs.toArray, _, hk, rfl, rfl, rfl, ?_, by simpa using rv⟩) (fun b u z => nomatch (show (none : Option HO) = some u from z)) (fun b u z => nomatch (show (none : Option HO) = some u from z))
    rw [List.size_toArray, lenV]; exact hl
  | none =>
    have at_ : ∀ b u, (if b = a then some (HO.frz { cls := .type "list", data := .seq vs.toArray } (.lst (ns.map V.int))) else none) = some u → b = a ∧ u = HO.frz { cls := .type "list", data := .seq vs.toArray } (.lst (ns.map V.int)) := fun b u z => by
      by_cases h : b = a
      · rw [if_pos h] at z; cases z; exact ⟨h, rfl⟩
      · rw [if_neg h] at z; cases z
    refine main (fun b => if b = a then some (.frz { cls := .type "list", data := .seq vs.toArray } (.lst (ns.map V.int))) else none) (fun b => ?_) (.inl (.inr ⟨_, if_pos rfl⟩)) (fun b u z => ?_) fun b u z => ⟨(at_ b u z).1, hk⟩
    · by_cases h : b = a
      · exact .inr ⟨_, _, if_pos h⟩
      · exact .inl (if_neg h)
    · obtain ⟨rfl, rfl⟩ := at_ b u z
      exact ⟨ha, by rw [List.length_map]; exact hl, vs, _, rv, ha⟩
theorem walk_ofG {l : PySem.W.OpenLaw} {n k : Nat} {q : Program} {loose : List Str} {XP : (Str → Option Value) → Heap → Prop} {YP : World → Heap → Prop} {d : DefRec} {K : Params → PySem.W.Frag} {CXx : World → CXT} {sp : World → Sp} {x : Str}
    (most : l.most = some n) (small : n ≤ sizeLine) (hdf : d.params.defaults = []) (room : Room k callerA) (hY : ∀ (w : World) (h : Heap), YP w h → (K w.params).In h)
    (F : ∀ (w : World) (mg : Str → Option Value) (fa : Addr) (h : Heap), (K w.params).In h → h.Ns mainGlobals mg → mg d.name = some (.ref fa) → ∃ fd : FuncData, (∀ (s : Shared) (u : Value), BindsTo s fd ⟨[u], []⟩ [(x, u)]) ∧
      ∀ base : Heap, (K w.params).In base → base.Ns mainGlobals mg → FnOkG l.prog w (K w.params) mg base (CXx w) k fa fd [x] (sp w))
    (hsp : ∀ (w : World) (H : Hp) (a : Addr) (ns : List Int), ns.length ≤ n → (∀ z ∈ ns, Builtin.Int.intBits z ≤ 1048576) → Only H → SqL (K w.params) H a (ns.map V.int) → sp w [.ref a] H (fun v _ => v = .bl true) fun _ _ _ => False)
    (hCX : ∀ (w : World) (H : Hp) (s : Shared) (e : Value) (s' : Shared), CXx w [] H s (fun _ _ _ => False) e s' → False) : PySem.W.WalkO q loose XP YP l.row.toRowW d [] (fun f vs => PySem.call f vs) := by
  refine Att.attach_callB most hdf fun w s₀ s₁ mg mb fa o pm cd doc a vs ns G Y _ _ _ named obj hint len bits gens => ?_
  obtain ⟨fd, hb, hF⟩ := F w mg fa _ (hY w _ Y) G.T.g named
  refine law_callG (hY w _ Y) G.T.g G.T.b G.T.builtins G.T.nolimit gens obj hint (Nat.le_trans len small) room hF hb (fun H only sq => hsp w H a ns len bits only sq) fun H e s' => hCX w H s₁ e s'
end L3

namespace L3
open PySem L2
/-! ### syntax -/
def notStar : Expr → Bool
  | .Starred .. => false
  | _ => true
theorem star_of {e : Expr} {es : List Expr} {env : Env} (h : notStar e = true) : starEach (e :: es) env = (false, eval e env) :: starEach es env := by
  cases e <;> first | rfl | cases h
theorem star_any {env : Env} {pos : Pos} : ∀ {es : List Expr}, es.all notStar = true → (backTo pos (starEach es env)).any (·.1) = false
  | [], _ => rfl
  | e :: es, h => by
    rw [List.all_cons, Bool.and_eq_true] at h
    rw [star_of h.1]
    show (false || (backTo pos (starEach es env)).any (·.1)) = false
    rw [star_any h.2]; rfl
theorem kw_names {env : Env} {pos : Pos} : ∀ (kws : List Keyword), (backToKw pos (keywordEach kws env)).map (·.1) = kws.map fun k => match k with | ⟨n, _, _⟩ => n
  | [] => rfl
  | ⟨n, v, p⟩ :: r => by
    show n :: (backToKw pos (keywordEach r env)).map (·.1) = n :: _
    rw [kw_names r]
/-- the keywords' names: all are written -/
def kwNames : List Keyword → Option (List Str)
  | [] => some []
  | ⟨some n, _, _⟩ :: r => (kwNames r).map (n :: ·)
  | _ => none
theorem kw_ok {env : Env} {pos : Pos} : ∀ {kws : List Keyword} {ks : List Str}, kwNames kws = some ks → (backToKw pos (keywordEach kws env)).all (·.1.isSome) = true ∧ (backToKw pos (keywordEach kws env)).filterMap (·.1) = ks ∧ (backToKw pos (keywordEach kws env)).any (·.1.isNone) = false
  | [], _, h => by cases h; exact ⟨rfl, rfl, rfl⟩
  | ⟨none, _, _⟩ :: _, _, h => by cases h
  | ⟨some n, v, p⟩ :: r, ks, h => by
    obtain ⟨ks', h1, h2⟩ := Option.map_eq_some_iff.mp (show (kwNames r).map (n :: ·) = some ks from h)
    obtain ⟨a, b, c⟩ := kw_ok (env := env) (pos := pos) h1
    subst h2
    refine ⟨?_, ?_, ?_⟩
    · show (true && (backToKw pos (keywordEach r env)).all (·.1.isSome)) = true
      rw [a]; rfl
    · show n :: (backToKw pos (keywordEach r env)).filterMap (·.1) = n :: ks'
      rw [b]
    · show (false || (backToKw pos (keywordEach r env)).any (·.1.isNone)) = false
      rw [c]; rfl
/-! ### a call's arguments, whatever their form -/
/-- what the arguments and keywords give -/
def tArgs (es : List Expr) (t tk : TA) : St → Hp → (List V → List V → Hp → Prop) → Prop := fun σ H Q => match es with
  | [] => tk σ H fun zs H2 => Q [] zs H2
  | _ :: _ => t σ H fun vs H1 => tk σ H1 fun zs H2 => Q vs zs H2
section
variable {X : Cx} {cl : ClsT} {H0 : Hp} {C0 : CH}
theorem call_args {fv : Value} {first : List Value} {es : List Expr} {kws : List Keyword} {ks : List Str} {t tk : TA} {pos : Pos} {pins : List (Addr × Obj)} {s : Shared} {σ : St} {H : Hp} {Q : Value → Shared → Prop}
    (hk : PySem.W.keepIn X.K fv = true) (hes : es.all notStar = true) (hks : kwNames kws = some ks) (ha : PA X es t) (hkw : PK X kws tk) (I : Inv X pins σ H s)
    (h : tArgs es t tk σ H fun vs zs H2 => ∀ s2 us ws, Inv X pins σ H2 s2 → Vals vs us → Vals zs ws → wpAny (model X.prog X.w) X.A (call fv (first ++ us) (ks.zip ws)) Q X.xe s2) :
    wpAny (model X.prog X.w) X.A (callWith pos fv first (backTo pos (starEach es X.env)) (backToKw pos (keywordEach kws X.env))) Q X.xe s := by
  obtain ⟨k1, k2, k3⟩ := kw_ok (env := X.env) (pos := pos) hks
  have hpl : ((backTo pos (starEach es X.env)).any (·.1) || (backToKw pos (keywordEach kws X.env)).any (·.1.isNone)) = false := by rw [star_any hes, k3]; rfl
  cases es with
  | nil =>
    refine PySem.W.callWith_KW0 (h₀ := X.base) I.ok.mod.kin hk k1 ?_ hpl
    refine thn (hkw.run pos pins s σ H _ I h) fun ws s2 ⟨zs, H2, I2, rz, q2⟩ => ⟨I2.kIn, ?_⟩
    rw [k2]
    exact q2 s2 [] ws I2 .nil rz
  | cons e rest =>
    rw [List.all_cons, Bool.and_eq_true] at hes
    refine PySem.W.callWith_KW (h₀ := X.base) I.ok.mod.kin hk k1 (thn (ha.run pos pins s σ H _ I h) fun us s1 ⟨vs, H1, I1, r, q⟩ => ?_) hpl (star_of hes.1)
    refine thn (hkw.run pos pins s1 σ H1 _ I1 q) fun ws s2 ⟨zs, H2, I2, rz, q2⟩ => ⟨I2.kIn, ?_⟩
    rw [k2]
    exact q2 s2 us ws I2 r rz
/-- a def runs at values, what it raises is wished for at the slots -/
theorem run_at {k : Nat} {f : Addr} {fd : FuncData} {ps : List Str} {sp : Sp} {E : St → XK} {CX : CXT} {pins : List (Addr × Obj)} {σ : St} {H : Hp} {s : Shared} {Q : VK} {args : Args} {us : List Value} {vs : List V} (F : FnOkG X.prog X.w X.K X.mg X.base CX k f fd ps sp) (hr : Room k X.A) (hg : X.A.guards = some [])
    (hb : BindsTo s fd args (ps.zip us)) (hx : PassesAt CX X σ (E σ)) (I : Inv X pins σ H s) (r : Vals vs us) (h : sp vs H Q (E σ)) : wpAny (model X.prog X.w) X.A (call (.ref f) args.pos args.kw) (EP X pins σ Q) X.xe s := by
  refine wpAny_call (codeAny_mono (F.run X.A X.stack s H args us vs Q (E σ) hr hg I.env0 hb r h) fun res s' hq => ?_)
  match res, hq with
  | .error e, hq => exact hx pins H s e s' I hq
  | .ok (.ret u), hq => exact I.after hq
/-- a class is called: the new instance, then its __init__ -/
theorem make_at {k : Nat} {f C : Addr} {fd : FuncData} {ps : List Str} {sp : Sp} {E : St → XK} {CX : CXT} {pins : List (Addr × Obj)} {σ : St} {H : Hp} {s : Shared} {Q : VK} {us : List Value} {kw : List (Str × Value)} (M : Mk X.K C f) (F : FnOkG X.prog X.w X.K X.mg X.base CX k f fd ps sp) (hr : Room (k + 1) X.A) (hg : X.A.guards = some [])
    (hx : PassesAt CX X σ (E σ)) (I : Inv X pins σ H s)
    (h : ∀ x dx s2, H x = none → H dx = none → dx ≠ x → Inv X pins σ (upd (upd H dx (.own x)) x (.ins C dx [])) s2 → ∃ vs' us', BindsTo s2 fd ⟨.ref x :: us, kw⟩ (ps.zip us') ∧ Vals vs' us' ∧ sp vs' (upd (upd H dx (.own x)) x (.ins C dx [])) (fun v H2 => v = .non ∧ Q (.ref x) H2) (E σ)) :
    wpAny (model X.prog X.w) X.A (call (.ref C) us kw) (EP X pins σ Q) X.xe s := by
  have I2 := Inv.made (C := C) I
  obtain ⟨vs', us', hb, r, q⟩ := h (s.heap.objs.size + 1) s.heap.objs.size _ (I.hok.fresh (Nat.le_succ _)) (I.hok.fresh (Nat.le_refl _)) (Nat.ne_of_lt (Nat.lt_succ_self _)) I2
  have run := F.run (X.A.under (.builtin "type.__call__" ⟨.ref C :: us, kw⟩)) X.stack _ _ _ us' vs' _ (E σ) (hr.make C us kw) (guards_make.trans hg) (I2.env0.make C us kw) hb r q
  refine wpAny_call (make_map (f := f) I.kIn M.makes M.init (beq_iff_eq.mp M.fn) (codeAny_mono run fun res s' hq => ?_))
  match res, hq with
  | .error e, hq => exact hx pins _ _ e s' I2 hq
  | .ok (.ret u), hq =>
    obtain ⟨v, H', I3, rv, ev, q3⟩ := I2.after hq
    subst ev
    exact ⟨rv, V.ref (s.heap.objs.size + 1), H', I3, rfl, q3⟩
end
/-! ### what a def promises -/
abbrev SemF := List D → CH → Kv → Kx → Prop
def spC (K : PySem.W.Frag) (cl : ClsT) (np : Nat) (sem : SemF) : Sp := fun vs H Q E => ∃ ds C Qc Ec, RepL K H ds vs ∧ ds.length = np ∧ Rel K cl H C ∧ sem ds C Qc Ec ∧ EndE K cl H C Qc Q ∧
  (∀ x C' cls d H', Ec x C' → XRel K cl H' x cls d → Rel K cl H' C' → Keep H C H' C' → E cls d H')
/-- where a parameter's value comes from: the j-th positional value, the j-th keyword's, a default -/
inductive Src where
  | pos (j : Nat) | kw (j : Nat) | dfl (d : D)
def Src.get (ds es : List D) : Src → D
  | .pos j => ds.getD j .non
  | .kw j => es.getD j .non
  | .dfl d => d
def gath (g : List Src) (ds es : List D) : List D := g.map (Src.get ds es)
/-- how a def binds such a call: n positional values, keywords ks -/
def BindsC (K : PySem.W.Frag) (fd : FuncData) (ps : List Str) (n : Nat) (ks : List Str) (g : List Src) : Prop :=
  ∃ (gv : List Value → List Value → List Value) (gV : List V → List V → List V), (∀ (s : Shared) (us ws : List Value), K.In s.heap → us.length = n → ws.length = ks.length → BindsTo s fd ⟨us, ks.zip ws⟩ (ps.zip (gv us ws))) ∧
    (∀ {vs us zs ws}, Vals vs us → Vals zs ws → Vals (gV vs zs) (gv us ws)) ∧ ∀ H ds vs es zs, ds.length = n → es.length = ks.length → RepL K H ds vs → RepL K H es zs → RepL K H (gath g ds es) (gV vs zs)
section
variable {X : Cx} {cl : ClsT} {H0 : Hp} {C0 : CH}
def CPK (X : Cx) (cl : ClsT) (H0 : Hp) (C0 : CH) (kws : List Keyword) (c : CTA) : Prop := PK X kws (tA X.K cl H0 C0 c)
theorem cpk_nil : CPK X cl H0 C0 [] cNil := ⟨fun pos pins s σ H Q I ⟨σc, C, Qc, S, h, hq⟩ => pk_nil.run pos pins s σ H Q I (hq _ _ _ _ h .nil S.r Keep.refl)⟩
theorem cpk_cons {e : Expr} {ca : CTE} {cs : CTA} {kws : List Keyword} {nm : Option Str} {kpos : Pos} (ha : CPE X cl H0 C0 e ca) (hr : CPK X cl H0 C0 kws cs) : CPK X cl H0 C0 (⟨nm, e, kpos⟩ :: kws) (cCons ca cs) :=
  ⟨fun pos pins s σ H Q I ⟨σc, C, Qc, S, h, hq⟩ => (pk_cons ha hr).run pos pins s σ H Q I ⟨σc, C, _, S, h, fun d C1 v H1 h1 rv R1 k1 => ⟨σc, C1, _, S.step k1 R1, h1, fun ds C2 vs H2 h2 rs R2 k2 =>
    hq _ _ _ _ h2 (.cons (rv.keep R1 k2) rs) R2 (k1.trans k2)⟩⟩⟩
/-- both lists of arguments, by data -/
def cArgs (a k : CTA) : Env3 → CH → (List D → List D → CH → Prop) → Prop := fun σ C Q => a σ C fun ds C1 => k σ C1 fun es C2 => Q ds es C2
theorem tArgs_of {es : List Expr} {kws : List Keyword} {ca ck : CTA} (h0 : es = [] → ca = cNil) {σ : St} {H : Hp} {σc : Env3} {C : CH} {Qc : List D → List D → CH → Prop} {Q : List V → List V → Hp → Prop} (S : S3 X.K cl H0 C0 σ H σc C) (h : cArgs ca ck σc C Qc)
    (hq : ∀ ds zs C' vs ws H', Qc ds zs C' → RepL X.K H' ds vs → RepL X.K H' zs ws → Rel X.K cl H' C' → Keep H C H' C' → Q vs ws H') : tArgs es (tA X.K cl H0 C0 ca) (tA X.K cl H0 C0 ck) σ H Q := by
  cases es with
  | nil =>
    rw [h0 rfl] at h
    exact ⟨σc, C, _, S, h, fun zs C' ws H' q r R k => hq [] zs C' [] ws H' q .nil r R k⟩
  | cons e es =>
    exact ⟨σc, C, _, S, h, fun ds C1 vs H1 h1 rs R1 k1 => ⟨σc, C1, _, S.step k1 R1, h1, fun zs C2 ws H2 h2 rz R2 k2 => hq ds zs C2 vs ws H2 h2 (rs.keep R1 k2) rz R2 (k1.trans k2)⟩⟩
/-- f(..) of a def -/
def cCall (sem : SemF) (np n m : Nat) (g : List Src) (ex : Kxs) (a k : CTA) : CTE := fun σ C Q => cArgs a k σ C fun ds es C1 => ds.length = n ∧ es.length = m ∧ (gath g ds es).length = np ∧ sem (gath g ds es) C1 Q fun x C' => ex x σ C'
theorem cpe_call {k np n : Nat} {f : Addr} {fd : FuncData} {ps ks : List Str} {sem : SemF} {g : List Src} {ex : Kxs} {x : Str} {p pos : Pos} {es : List Expr} {kws : List Keyword} {ca ck : CTA}
    (F : FnOkG X.prog X.w X.K X.mg X.base (L2.CX X.prog X.w) k f fd ps (spC X.K cl np sem)) (hr : Room k X.A) (hgd : X.A.guards = some []) (hg : Gl X x) (hm : X.mg x = some (.ref f)) (hk : PySem.W.keepIn X.K (.ref f) = true) (hb : BindsC X.K fd ps n ks g) (tk : Takes X (WC X.K cl H0 C0 ex))
    (hes : es.all notStar = true) (hks : kwNames kws = some ks) (ha : CPA X cl H0 C0 es ca) (hkw : CPK X cl H0 C0 kws ck) (h0 : es = [] → ca = cNil) (hdb : (x == ("__debug__" : Str)) = false) : CPE X cl H0 C0 (.Call (.Name x p) es kws pos) (cCall sem np n ks.length g ex ca ck) := by
  refine ⟨fun pins s σ H Q I ⟨σc, C, Qc, S, h, hq⟩ => ?_⟩
  refine wpAny_Call_Name_kw (ld_glob I hg hm ?_ hdb)
  obtain ⟨gv, gV, b1, b2, b3⟩ := hb
  refine call_args (first := []) hk hes hks ha hkw I (tArgs_of (kws := kws) h0 S h fun ds zs C' vs ws H' ⟨l1, l2, l3, q⟩ r1 r2 R' k' s2 us ws' I2 rv rw' => ?_)
  have e1 : us.length = n := by rw [← rv.length, ← r1.length, l1]
  have e2 : ws'.length = ks.length := by rw [← rw'.length, ← r2.length, l2]
  exact run_at (args := ⟨us, ks.zip ws'⟩) (E := WE (WC X.K cl H0 C0 ex)) F hr hgd (b1 s2 us ws' I2.kIn e1 e2) (passAt tk σ) I2 (b2 rv rw') ⟨_, C', Qc, _, b3 H' ds vs zs ws l1 l2 r1 r2, l3, R', q, hq.from_ k', fun x C'' cls d H'' hx xr R'' k'' => ⟨x, σc, C'', hx, xr, S.step (k'.trans k'') R''⟩⟩
/-- C(..) of a class with an own __init__ -/
def cMake (c : Nat) (sem : SemF) (np n m : Nat) (g : List Src) (ex : Kxs) (a k : CTA) : CTE := fun σ C Q => cArgs a k σ C fun ds es C1 => ds.length = n ∧ es.length = m ∧ ∀ p, C1 p = none → (gath g (.ref p :: ds) es).length = np ∧
  sem (gath g (.ref p :: ds) es) (cup C1 p (.ins c [])) (fun v C2 => v = .non ∧ Q (.ref p) C2) fun x C' => ex x σ C'
theorem cpe_make {k np n c : Nat} {f Ca : Addr} {fd : FuncData} {ps ks : List Str} {sem : SemF} {g : List Src} {ex : Kxs} {x : Str} {p pos : Pos} {es : List Expr} {kws : List Keyword} {ca ck : CTA} (hc : cl c = some Ca)
    (M : Mk X.K Ca f) (F : (∀ ds C Q E, ¬ sem ds C Q E) ∨ (FnOkG X.prog X.w X.K X.mg X.base (L2.CX X.prog X.w) k f fd ps (spC X.K cl np sem) ∧ Room (k + 1) X.A)) (hgd : X.A.guards = some []) (hg : Gl X x) (hm : X.mg x = some (.ref Ca)) (hb : BindsC X.K fd ps (n + 1) ks g) (tk : Takes X (WC X.K cl H0 C0 ex))
    (hes : es.all notStar = true) (hks : kwNames kws = some ks) (ha : CPA X cl H0 C0 es ca) (hkw : CPK X cl H0 C0 kws ck) (h0 : es = [] → ca = cNil) (hdb : (x == ("__debug__" : Str)) = false) : CPE X cl H0 C0 (.Call (.Name x p) es kws pos) (cMake c sem np n ks.length g ex ca ck) := by
  refine ⟨fun pins s σ H Q I ⟨σc, C, Qc, S, h, hq⟩ => ?_⟩
  refine wpAny_Call_Name_kw (ld_glob I hg hm ?_ hdb)
  obtain ⟨gv, gV, b1, b2, b3⟩ := hb
  refine call_args (first := []) M.kp hes hks ha hkw I (tArgs_of (kws := kws) h0 S h fun ds zs C' vs ws H' ⟨l1, l2, q⟩ r1 r2 R' k' s2 us ws' I2 rv rw' => ?_)
  have e1 : us.length = n := by rw [← rv.length, ← r1.length, l1]
  have e2 : ws'.length = ks.length := by rw [← rw'.length, ← r2.length, l2]
  rcases F with F | ⟨F, hr⟩
  · exact (F _ _ _ _ (q s2.heap.objs.size (free_of R' (I2.hok.fresh (Nat.le_refl _)))).2).elim
  refine make_at (us := us) (kw := ks.zip ws') (E := WE (WC X.K cl H0 C0 ex)) M F hr hgd (passAt tk σ) I2 fun a da s3 n1 n2 ne I3 => ?_
  have R1 : Rel X.K cl (upd H' da (.own a)) C' := R'.newH n2 _
  have n3 : (upd H' da (.own a)) a = none := by rw [upd_ne ne.symm]; exact n1
  have R2 : Rel X.K cl (upd (upd H' da (.own a)) a (.ins Ca da [])) (cup C' a (.ins c [])) := R1.new n3 _ _ ⟨Ca, da, [], hc, upd_same, .nil⟩
  have kk : Keep H' C' (upd (upd H' da (.own a)) a (.ins Ca da [])) (cup C' a (.ins c [])) := (keep_newH n2 _ R').trans (Keep.new n3 R1 _ _)
  obtain ⟨l3, q⟩ := q a (free_of R' n1)
  refine ⟨_, _, b1 s3 (.ref a :: us) ws' I3.kIn (by rw [List.length_cons, e1]) e2, b2 (.cons (show RelV (V.ref a) (Value.ref a) from rfl) rv) rw', _, _, _, _, b3 _ (.ref a :: ds) (.ref a :: vs) zs ws (by rw [List.length_cons, l1]) l2 (.cons (.ref a) (r1.keep R' kk)) (r2.keep R' kk), l3, R2, q, fun d C3 v H3 ⟨e3, q3⟩ r3 R3 k3 => ?_, fun x C'' cls d H'' hx xr R'' k'' => ⟨x, σc, C'', hx, xr, S.step ((k'.trans kk).trans k'') R''⟩⟩
  subst e3
  cases r3
  exact ⟨rfl, hq _ _ _ _ q3 (.ref a) R3 ((k'.trans kk).trans k3)⟩
/-- o.m(..) of an instance of the class c -/
def cMeth (c : Nat) (m : Str) (sem : SemF) (np n k : Nat) (g : List Src) (ex : Kxs) (o : CTE) (a kw : CTA) : CTE := fun σ C Q => o σ C fun d C1 => ∃ p fs, d = .ref p ∧ C1 p = some (.ins c fs) ∧ fs.lookup m = none ∧
  cArgs a kw σ C1 fun ds es C2 => ds.length = n ∧ es.length = k ∧ (gath g (.ref p :: ds) es).length = np ∧ sem (gath g (.ref p :: ds) es) C2 Q fun x C' => ex x σ C'
theorem cpe_meth {pl : Sem Bool} {k np n c : Nat} {f Ca : Addr} {fd : FuncData} {ps ks : List Str} {sem : SemF} {g : List Src} {ex : Kxs} {m : Str} {o : Expr} {apos pos : Pos} {es : List Expr} {kws : List Keyword} {co : CTE} {ca ck : CTA} (hc : cl c = some Ca)
    (ho : CPE X cl H0 C0 o co) (cls : Cls X.K Ca) (hm : Meth X.K Ca m f) (F : FnOkG X.prog X.w X.K X.mg X.base (L2.CX X.prog X.w) k f fd ps (spC X.K cl np sem)) (hr : Room k X.A) (hgd : X.A.guards = some []) (hb : BindsC X.K fd ps (n + 1) ks g) (tk : Takes X (WC X.K cl H0 C0 ex))
    (hes : es.all notStar = true) (hks : kwNames kws = some ks) (ha : CPA X cl H0 C0 es ca) (hkw : CPK X cl H0 C0 kws ck) (h0 : es = [] → ca = cNil)
    (ht : eval (.Call (.Attribute o m apos) es kws pos) X.env = (do
      let ov ← eval o X.env
      standAt apos.atName
      let (f, first) ← holding [ov] (getMethod ov m pl)
      callWith pos f first (backTo pos (starEach es X.env)) (backToKw pos (keywordEach kws X.env)))) : CPE X cl H0 C0 (.Call (.Attribute o m apos) es kws pos) (cMeth c m sem np n ks.length g ex co ca ck) := by
  refine ⟨fun pins s σ H Q I ⟨σc, C, Qc, S, h, hq⟩ => ?_⟩
  refine PySem.W.methodCall_KW (pl := pl) (thn (ho.run pins s σ H (fun v H1 => ∃ a C1 fs, v = .ref a ∧ Rel X.K cl H1 C1 ∧ Keep H C H1 C1 ∧ C1 a = some (.ins c fs) ∧ fs.lookup m = none ∧ cArgs ca ck σc C1 fun ds es C2 => ds.length = n ∧ es.length = ks.length ∧ (gath g (.ref a :: ds) es).length = np ∧ sem (gath g (.ref a :: ds) es) C2 Qc fun x C' => ex x σc C') I
    ⟨σc, C, _, S, h, fun d C1 v H1 ⟨a, fs, e, e1, e2, q⟩ rv R1 k1 => by subst e; cases rv; exact ⟨a, C1, fs, rfl, R1, k1, e1, e2, q⟩⟩) fun u s1 ⟨v, H1, I1, rv, a, C1, fs, ev, R1, k1, e1, e2, q⟩ => ?_) ht
  subst ev
  cases rv
  obtain ⟨Ca', dx, fv, hc', e3, rf⟩ := R1 a _ e1
  rw [hc] at hc'
  cases hc'
  refine getmeth_ok I1 e3 cls hm (rf.lookup_none e2) ?_
  obtain ⟨gv, gV, b1, b2, b3⟩ := hb
  have S1 := S.step k1 R1
  refine call_args (first := [.ref a]) hm.kp hes hks ha hkw I1 (tArgs_of (kws := kws) h0 S1 q fun ds zs C' vs ws H' ⟨l1, l2, l3, q⟩ r1 r2 R' k' s2 us ws' I2 rv rw' => ?_)
  have e4 : us.length = n := by rw [← rv.length, ← r1.length, l1]
  have e5 : ws'.length = ks.length := by rw [← rw'.length, ← r2.length, l2]
  exact run_at (args := ⟨.ref a :: us, ks.zip ws'⟩) (E := WE (WC X.K cl H0 C0 ex)) F hr hgd (b1 s2 (.ref a :: us) ws' I2.kIn (by rw [List.length_cons, e4]) e5) (passAt tk σ) I2 (b2 (.cons (show RelV (V.ref a) (Value.ref a) from rfl) rv) rw')
    ⟨_, C', Qc, _, b3 H' (.ref a :: ds) (.ref a :: vs) zs ws (by rw [List.length_cons, l1]) l2 (.cons (.ref a) r1) r2, l3, R', q, hq.from_ (k1.trans k'), fun x C'' cls d H'' hx xr R'' k'' => ⟨x, σc, C'', hx, xr, S1.step (k'.trans k'') R''⟩⟩
end
end L3

namespace L3
open PySem L2
/-! ### targets by slots -/
inductive CT where
  | nm (i : Nat) | tp (is : List Nat)
def CT.slots : CT → List Nat
  | .nm i => [i]
  | .tp is => is
def setAll (σ : Env3) : List Nat → List D → Env3
  | i :: is, d :: ds => setAll (σ.set i (some d)) is ds
  | _, _ => σ
def setAllV (σ : St) : List Nat → List V → St
  | i :: is, d :: ds => setAllV (σ.set i (some d)) is ds
  | _, _ => σ
def bindT (T : CT) (d : D) (σ : Env3) : Option Env3 := match T, d with
  | .nm i, d => some (σ.set i (some d))
  | .tp is, .tup ds => if ds.length = is.length then some (setAll σ is ds) else none
  | _, _ => none
def gAll : List Nat → TGs
  | [] => gNil
  | i :: is => gCons (gName i) (gAll is)
def tgV (K : PySem.W.Frag) : CT → TG
  | .nm i => gName i
  | .tp is => gTup K is.length (gAll is)
def wipe3 (σ : Env3) : List Nat → Env3
  | [] => σ
  | v :: vs => (wipe3 σ vs).set v none
section
variable {K : PySem.W.Frag} {cl : ClsT} {H : Hp} {C : CH}
theorem RepS.wipe {σc : Env3} {σ : St} (h : RepS K H σc σ) : ∀ vs : List Nat, RepS K H (wipe3 σc vs) (L2.wipe σ vs)
  | [] => h
  | v :: vs => RepS.wipe1 v (RepS.wipe h vs)
theorem wipe_set {σ : St} {o : Option V} : ∀ {vs : List Nat} {i : Nat}, i ∈ vs → L2.wipe (σ.set i o) vs = L2.wipe σ vs
  | v :: vs, i, h => by
    show (L2.wipe (σ.set i o) vs).set v none = (L2.wipe σ vs).set v none
    by_cases hv : i ∈ vs
    · rw [wipe_set hv]
    · have e : i = v := by rcases List.mem_cons.mp h with e | e; exact e; exact absurd e hv
      subst e
      have go : ∀ ws : List Nat, i ∉ ws → L2.wipe (σ.set i o) ws = (L2.wipe σ ws).set i o := by
        intro ws
        induction ws with
        | nil => intro _; rfl
        | cons w ws ih =>
          intro hw
          show (L2.wipe (σ.set i o) ws).set w none = ((L2.wipe σ ws).set w none).set i o
          rw [ih (fun z => hw (List.mem_cons_of_mem _ z)), List.set_comm _ _ (fun z => hw (by rw [z]; exact List.mem_cons_self))]
      rw [go vs hv, List.set_set]
theorem setAll_rep : ∀ {is : List Nat} {ds : List D} {vs : List V} {σc : Env3} {σ : St}, RepL K H ds vs → RepS K H σc σ → RepS K H (setAll σc is ds) (setAllV σ is vs)
  | [], _, _, _, _, _, s => by unfold setAll setAllV; exact s
  | _ :: _, _, _, _, _, .nil, s => by unfold setAll setAllV; exact s
  | i :: is, _, _, _, _, .cons r t, s => by
    unfold setAll setAllV
    exact setAll_rep t (s.set r i)
theorem gAll_set : ∀ {is : List Nat} {vs : List V} {σ : St} {Q : St → Hp → Prop}, vs.length = is.length → Q (setAllV σ is vs) H → gAll is vs σ H Q
  | [], vs, σ, Q, h, q => by
    cases vs with
    | nil => exact ⟨rfl, q⟩
    | cons _ _ => cases h
  | i :: is, vs, σ, Q, h, q => by
    cases vs with
    | nil => cases h
    | cons v vs => exact ⟨v, vs, rfl, gAll_set (by simpa using h) q⟩
theorem wipe_setAll : ∀ {is : List Nat} {xs : List V} {σ : St} {vs : List Nat}, (∀ i ∈ is, i ∈ vs) → L2.wipe (setAllV σ is xs) vs = L2.wipe σ vs
  | [], _, _, _, _ => by unfold setAllV; rfl
  | _ :: _, [], _, _, _ => by unfold setAllV; rfl
  | i :: is, x :: xs, σ, vs, h => by
    unfold setAllV
    rw [wipe_setAll fun j hj => h j (List.mem_cons_of_mem _ hj), wipe_set (h i List.mem_cons_self)]
theorem bind_tg {T : CT} {d : D} {v : V} {σc σc' : Env3} {σ : St} (e : bindT T d σc = some σc') (r : Rep K H d v) (s : RepS K H σc σ) :
    ∃ σ', RepS K H σc' σ' ∧ (∀ Q : St → Hp → Prop, Q σ' H → tgV K T v σ H Q) ∧ ∀ vs, (∀ i ∈ T.slots, i ∈ vs) → L2.wipe σ' vs = L2.wipe σ vs := by
  cases T with
  | nm i =>
    cases e
    exact ⟨_, s.set r i, fun Q q => q, fun vs h => wipe_set (h i (by simp [CT.slots]))⟩
  | tp is =>
    cases d with
    | tup ds =>
      by_cases hl : ds.length = is.length
      · rw [show bindT (.tp is) (.tup ds) σc = some (setAll σc is ds) from if_pos hl] at e
        cases e
        cases r with
        | tup sq rr => exact ⟨_, setAll_rep rr s, fun Q q => ⟨_, _, rfl, sq, by rw [← rr.length]; exact hl, gAll_set (by rw [← rr.length]; exact hl) q⟩, fun vs h => wipe_setAll h⟩
      · rw [show bindT (.tp is) (.tup ds) σc = none from if_neg hl] at e
        cases e
    | _ => cases e
end
def hT (T : CT) : CTG := fun d σ C Q => ∃ σ', bindT T d σ = some σ' ∧ Q σ' C
theorem cpg_T {X : Cx} {cl : ClsT} {e : Expr} {T : CT} (h : PG X e (tgV X.K T)) : CPG X cl e (hT T) := h.imp fun v σ H Q ⟨d, σc, C, Qc, r, s, R, ⟨σ', e, h⟩, hq⟩ => by
  obtain ⟨σ2, s2, g, _⟩ := bind_tg e r s
  exact g Q (hq _ _ _ _ h s2 R Keep.refl)
theorem pgs_all {X : Cx} (hN : X.N.Nodup) : ∀ {xs : List Expr} {is : List Nat}, xs.length = is.length → (∀ (j : Nat) (e : Expr) (i : Nat), xs[j]? = some e → is[j]? = some i → ∃ x pos, e = .Name x pos ∧ X.N[i]? = some x ∧ Loc X.env.scope x ∧ (X.fn x = true ∨ X.env.scope.names.lookup x = some .local)) → PGs X xs (gAll is)
  | [], is, h, _ => by
    cases is with
    | nil => exact pgs_nil
    | cons _ _ => cases h
  | x :: xs, is, h, hx => by
    cases is with
    | nil => cases h
    | cons i is =>
      obtain ⟨n, pos, rfl, h1, h2, h3⟩ := hx 0 x i rfl rfl
      exact pgs_cons (pg_name hN h1 h2 h3) (pgs_all hN (by simpa using h) fun j e i' a b => hx (j + 1) e i' (by simpa using a) (by simpa using b))
/-! ### list comprehensions -/
/-- one item after another: the list so far -/
def lcL (T : CT) (vs : List Nat) (σ : Env3) (t : CTT) (e : CTE) (G : CH → Prop) (Kq : List D → CH → Prop) : List D → List D → CH → Prop
  | [], acc, C => G C ∧ Kq acc C
  | d :: r, acc, C => G C ∧ ∃ σ2, bindT T d (wipe3 σ vs) = some σ2 ∧ t σ2 C fun b C1 => if b = true then e σ2 C1 fun y C2 => acc.length < sizeLine ∧ lcL T vs σ t e G Kq r (acc ++ [y]) C2 else lcL T vs σ t e G Kq r acc C1
def cLc (it : CTI) (T : CT) (vs : List Nat) (t : CTT) (e : CTE) : CTE := fun σ C Q => it σ C fun ds G C1 => lcL T vs σ t e G (fun acc C2 => ∀ p, C2 p = none → Q (.ref p) (cup C2 p (.lst acc))) ds [] C1
def cYes : CTT := fun _ C Q => Q true C
section
variable {X : Cx} {cl : ClsT} {H0 : Hp} {C0 : CH}
def CPTs (X : Cx) (cl : ClsT) (H0 : Hp) (C0 : CH) (ifs : List Expr) (c : CTT) : Prop := PTs X ifs (tT X.K cl H0 C0 c)
theorem cpts_nil : CPTs X cl H0 C0 [] cYes := ⟨fun pins s σ H Q I ⟨σc, C, Qc, S, h, hq⟩ => pts_nil.run pins s σ H Q I (hq _ _ _ h S.r Keep.refl)⟩
theorem cpts_one {c : Expr} {t : CTT} (h : CPT X cl H0 C0 c t) : CPTs X cl H0 C0 [c] t := pts_one h
theorem tLc_of {it : CTI} {T : CT} {vs : List Nat} {t : CTT} {e : CTE} (hv : ∀ i ∈ T.slots, i ∈ vs) : ∀ σ H Q, tE X.K cl H0 C0 (cLc it T vs t e) σ H Q →
    tLc (tI X.K cl H0 C0 it) (tgV X.K T) (tT X.K cl H0 C0 t) (tE X.K cl H0 C0 e) vs σ H Q := fun σ H Q ⟨σc, C, Qc, S, h, hq⟩ => ⟨σc, C, _, S, h, fun ds G C1 H1 J h1 R1 k1 ok Da hD => by
  have S1 := S.step k1 R1
  -- turn i: the list so far stands at Da, the clean heap does not know it
  refine ⟨fun i m H' => m = ds.length - i ∧ i ≤ ds.length ∧ ∃ C' acc vacc, RepS X.K H' σc σ ∧ Rel X.K cl H' C' ∧ Keep H1 C1 H' C' ∧ H' Da = some (.lst vacc) ∧ C' Da = none ∧ RepL X.K H' acc vacc ∧
      lcL T vs σc t e G (fun acc C2 => ∀ p, C2 p = none → Qc (.ref p) (cup C2 p (.lst acc))) (ds.drop i) acc C',
    ⟨ds.length, by simp, Nat.zero_le _, C1, [], [], S1.s.keep R1 (keep_newH hD _ R1), R1.newH hD _, keep_newH hD _ R1, upd_same, free_of R1 hD, .nil, h1⟩, ?_⟩
  rintro i m H' ⟨rfl, hi, C', acc, vacc, s', R', k', hDa, hCa, ra, hl⟩
  by_cases hlt : i < ds.length
  · rw [List.drop_eq_getElem_cons hlt] at hl
    obtain ⟨hG, σ2c, eb, hl⟩ := hl
    refine .inr ⟨ok.go i H' C' k' R' hG hlt, fun H2 => i + 1 ≤ ds.length ∧ ∃ C2 acc2 vacc2, RepS X.K H2 σc σ ∧ Rel X.K cl H2 C2 ∧ Keep H1 C1 H2 C2 ∧ H2 Da = some (.lst vacc2) ∧ C2 Da = none ∧ RepL X.K H2 acc2 vacc2 ∧
      lcL T vs σc t e G (fun acc C2 => ∀ p, C2 p = none → Qc (.ref p) (cup C2 p (.lst acc))) (ds.drop (i + 1)) acc2 C2, fun H2 ⟨hle, q⟩ => ⟨ds.length - (i + 1), by omega, rfl, hle, q⟩, fun x H2 hy => ?_⟩
    obtain ⟨rx, R2, k2⟩ := ok.yld i H' C' x H2 k' R' hG hy _ (List.getElem?_eq_getElem hlt)
    have s2 := s'.keep R' k2
    obtain ⟨σ2, sb, hb, hw⟩ := bind_tg (K := X.K) eb rx (s2.wipe vs)
    refine hb _ ⟨?_, ?_⟩
    · have e1 := hw vs hv
      have e2 : ∀ (ws : List Nat) (τ : St), (∀ j ∈ ws, j ∈ vs) → L2.wipe (L2.wipe τ ws) vs = L2.wipe τ vs := by
        intro ws
        induction ws with
        | nil => intro τ _; rfl
        | cons w ws ih =>
          intro τ hws
          show L2.wipe ((L2.wipe τ ws).set w none) vs = _
          rw [wipe_set (hws w List.mem_cons_self)]
          exact ih τ fun j hj => hws j (List.mem_cons_of_mem _ hj)
      rw [e1]
      exact e2 vs σ fun _ z => z
    · have kA : Keep H1 C1 H2 C' := k'.trans k2
      have hDa2 : H2 Da = some (.lst vacc) := (k2 Da _ hDa hCa).1
      refine ⟨σ2c, C', _, ⟨sb, R2, (S1.f.trans kA)⟩, hl, fun b C3 H3 h3 R3 k3 => ?_⟩
      have hDa3 := k3 Da _ hDa2 hCa
      cases b with
      | true =>
        refine iteT ⟨σ2c, C3, _, ⟨sb.keep R2 k3, R3, S1.f.trans (kA.trans k3)⟩, h3, fun y C4 v H4 ⟨hsz, h4⟩ rv R4 k4 => ?_⟩
        have hDa4 := k4 Da _ hDa3.1 hDa3.2
        have r4 : RepL X.K H4 acc vacc := (((ra.keep R' k2).keep R2 k3).keep R3 k4)
        refine ⟨vacc, hDa4.1, by rw [← r4.length]; exact hsz, hlt, C4, acc ++ [y], vacc ++ [v], ?_⟩
        have kU : Keep H4 C4 (upd H4 Da (.lst (vacc ++ [v]))) C4 → True := fun _ => trivial
        -- the list is written at Da: nothing that the clean heap or the data lean on
        have nt : ∀ (b : Addr) (xs : List V), Rd H4 b (.tup xs) → b ≠ Da := fun b xs h z => by
          subst z
          rcases h with h | ⟨u, h⟩ <;> (rw [hDa4.1] at h; cases h)
        have sqU : ∀ {b : Addr} {xs : List V}, SqT X.K H4 b xs → SqT X.K (upd H4 Da (.lst (vacc ++ [v]))) b xs := fun {b xs} h => by
          rcases h with h | h
          · have n := nt b xs h
            rcases h with h | ⟨u, h⟩
            · exact .inl (.inl (by rw [upd_ne n]; exact h))
            · exact .inl (.inr ⟨u, by rw [upd_ne n]; exact h⟩)
          · exact .inr h
        have rlU : ∀ {b : Addr} {xs : List V}, RlS X.K H4 b xs → RlS X.K (upd H4 Da (.lst (vacc ++ [v]))) b xs := fun {b xs} h => by
          rcases h with ⟨o, h⟩ | h
          · have n : b ≠ Da := fun z => by rw [z, hDa4.1] at h; cases h
            exact .inl ⟨o, by rw [upd_ne n]; exact h⟩
          · exact .inr h
        have repU : ∀ (d : D) (w : V), Rep X.K H4 d w → Rep X.K (upd H4 Da (.lst (vacc ++ [v]))) d w := fun d w h => by
          refine Rep.rec (motive_1 := fun d w _ => Rep X.K (upd H4 Da (.lst (vacc ++ [v]))) d w) (motive_2 := fun ds ws _ => RepL X.K (upd H4 Da (.lst (vacc ++ [v]))) ds ws) .non (fun b => .bl b) (fun b => .int b) (fun b => .str b) (fun b => .ty b) (fun b => .ref b) (fun h _ ih => .tup (sqU h) ih) (fun h _ ih => .rls (rlU h) ih) .nil (fun _ _ ih1 ih2 => .cons ih1 ih2) h
        have repLU : ∀ (d : List D) (w : List V), RepL X.K H4 d w → RepL X.K (upd H4 Da (.lst (vacc ++ [v]))) d w := fun d w h => by
          induction h using RepL.rec (motive_1 := fun _ _ _ => True) with
          | non => trivial
          | bl => trivial
          | int => trivial
          | str => trivial
          | ty => trivial
          | ref => trivial
          | tup => trivial
          | rls => trivial
          | nil => exact .nil
          | cons h1 _ _ ih => exact .cons (repU _ _ h1) ih
        have s4 := (((s2.keep R2 k3)).keep R3 k4)
        have repSU : ∀ (d : Env3) (w : St), RepS X.K H4 d w → RepS X.K (upd H4 Da (.lst (vacc ++ [v]))) d w := fun d w h => by
          induction h with
          | nil => exact .nil
          | no _ ih => exact .no ih
          | so h1 _ ih => exact .so (repU _ _ h1) ih
        have repFU : ∀ {κ : Type} (d : List (κ × D)) (w : List (κ × V)), RepF X.K H4 d w → RepF X.K (upd H4 Da (.lst (vacc ++ [v]))) d w := fun d w h => by
          induction h with
          | nil => exact .nil
          | cons h1 _ ih => exact .cons (repU _ _ h1) ih
        have repKU : ∀ (d : List (NestedKey × D)) (w : List (NestedKey × Addr × Value)), RepK X.K H4 d w → RepK X.K (upd H4 Da (.lst (vacc ++ [v]))) d w := fun d w h => by
          induction h with
          | nil => exact .nil
          | cons e z h1 h2 q _ ih => exact .cons e z (repU _ _ h1) (repU _ _ h2) q ih
        refine ⟨repSU _ _ s4, fun a o ho => ?_, fun b o hb hn => ?_, upd_same, hDa4.2, repLU _ _ (r4.append (.cons rv .nil)), h4⟩
        · have na : a ≠ Da := fun z => by rw [z, hDa4.2] at ho; cases ho
          have q := R4 a o ho
          cases o with
          | lst ds => obtain ⟨ws, h1, h2⟩ := q; exact ⟨ws, by rw [upd_ne na]; exact h1, repLU _ _ h2⟩
          | dic ds => obtain ⟨ws, h1, h2⟩ := q; exact ⟨ws, by rw [upd_ne na]; exact h1, repFU _ _ h2⟩
          | dtk ds => obtain ⟨ws, h1, h2⟩ := q; exact ⟨ws, by rw [upd_ne na]; exact h1, repKU _ _ h2⟩
          | ins c ds => obtain ⟨Ca, dx, ws, h0, h1, h2⟩ := q; exact ⟨Ca, dx, ws, h0, by rw [upd_ne na]; exact h1, repFU _ _ h2⟩
        · have q := ((kA.trans k3).trans k4) b o hb hn
          exact ⟨by rw [upd_ne (ne_of_none hb hD)]; exact q.1, q.2⟩
      | false =>
        exact iteF ⟨hlt, C3, acc, vacc, (s2.keep R2 k3), R3, kA.trans k3, hDa3.1, hDa3.2, (ra.keep R' k2).keep R2 k3, h3⟩
  · have e0 : ds.drop i = [] := List.drop_eq_nil_of_le (by omega)
    rw [e0] at hl
    refine .inl ⟨ok.stop i H' C' k' R' hl.1 (by omega), ?_⟩
    have R2 : Rel X.K cl H' (cup C' Da (.lst acc)) := fun a o ho => by
      by_cases ha : a = Da
      · subst ha; rw [cup_same] at ho; cases ho; exact ⟨vacc, hDa, ra⟩
      · rw [cup_ne ha] at ho; exact R' a o ho
    refine hq _ _ _ _ (hl.2 Da hCa) (.ref Da) R2 fun b o hb hn => ?_
    obtain ⟨z1, z2⟩ := (k1.trans k') b o hb hn
    obtain ⟨z3, _⟩ := k1 b o hb hn
    exact ⟨z1, by rw [cup_ne (ne_of_none z3 hD)]; exact z2⟩⟩
theorem cpe_lc {elt tg iter : Expr} {ifs : List Expr} {scope : Scope} {own : List (Str × Nat)} {pos : Pos} {it : CTI} {T : CT} {t : CTT} {e : CTE} (hc : X.calm = true) (hN : X.N.Nodup) (hi : CPI X cl H0 C0 tg iter it) (ok : BlkOk X.N X.env.scope scope own) (hv : ∀ i ∈ T.slots, i ∈ own.map (·.2))
    (hg : ∀ (s : Shared) (H : Hp) (C : Addr) (cs : List (Str × Addr)) (fp : List Addr), PG (X.blk s H scope (compEnvC scope cs C X.env) fp) tg (tgV X.K T)) (ht : ∀ (s : Shared) (H : Hp) (C : Addr) (cs : List (Str × Addr)) (fp : List Addr), CPTs (X.blk s H scope (compEnvC scope cs C X.env) fp) cl H0 C0 ifs t)
    (he : ∀ (s : Shared) (H : Hp) (C : Addr) (cs : List (Str × Addr)) (fp : List Addr), CPE (X.blk s H scope (compEnvC scope cs C X.env) fp) cl H0 C0 elt e) (hs : ∀ x, foldedSetIterable iter X.env x = pure x) :
    CPE X cl H0 C0 (.ListComp elt [⟨tg, iter, ifs, 0⟩] scope pos) (cLc it T (own.map (·.2)) t e) := (pe_lc (tt := tT X.K cl H0 C0 t) (te := tE X.K cl H0 C0 e) hc hN hi ok hg ht he hs).imp (tLc_of hv)
/-- name = [..] on one line -/
theorem cps_setLc {i : Nat} {y : Str} {py : Pos} {elt tg iter : Expr} {ifs : List Expr} {scope : Scope} {own : List (Str × Nat)} {pos spos : Pos} {it : CTI} {T : CT} {t : CTT} {e : CTE} (hc : X.calm = true) (hN : X.N.Nodup) (hy : X.N[i]? = some y) (hyl : X.env.scope.names.lookup y = some .local)
    (hsw : swapsWith (.ListComp elt [⟨tg, iter, ifs, 0⟩] scope pos) (some (.Name y py)) spos.line X.env = pure true) (hi : CPI X cl H0 C0 tg iter it) (ok : BlkOk X.N X.env.scope scope own) (hv : ∀ i ∈ T.slots, i ∈ own.map (·.2))
    (hg : ∀ (s : Shared) (H : Hp) (C : Addr) (cs : List (Str × Addr)) (fp : List Addr), PG (X.blk s H scope (compEnvC scope cs C X.env) fp) tg (tgV X.K T)) (ht : ∀ (s : Shared) (H : Hp) (C : Addr) (cs : List (Str × Addr)) (fp : List Addr), CPTs (X.blk s H scope (compEnvC scope cs C X.env) fp) cl H0 C0 ifs t)
    (he : ∀ (s : Shared) (H : Hp) (C : Addr) (cs : List (Str × Addr)) (fp : List Addr), CPE (X.blk s H scope (compEnvC scope cs C X.env) fp) cl H0 C0 elt e) (hs : ∀ x, foldedSetIterable iter X.env x = pure x) :
    CPS X cl H0 C0 (.Assign [.Name y py] (.ListComp elt [⟨tg, iter, ifs, 0⟩] scope pos) spos) (sAsg (cLc it T (own.map (·.2)) t e) (hT (.nm i))) :=
  (ps_setLc (tt := tT X.K cl H0 C0 t) (te := tE X.K cl H0 C0 e) hc hN hy hyl hsw hi ok hg ht he hs).imp fun D σ H ⟨σc, C, Dc, S, h, hq⟩ => tLc_of (X := X) hv σ H (fun v H1 => gName i v σ H1 D.nx) ⟨σc, C, _, S, h, fun d C1 v H1 ⟨σ', h1, h2⟩ rv R1 k1 => by
    cases h1
    exact hq.nx _ _ _ _ h2 ((S.s.keep S.r k1).set rv i) R1 k1⟩
end
end L3

namespace L3
open PySem L2
/-! ### syntax -/
def noSuper : Expr → Bool
  | .Call (.Name id _) [] [] _ => id != ("super" : Str)
  | _ => true
theorem base_of {o : Expr} {m : Str} {env : Env} {w : Sem Value} (h : noSuper o = true) : attributeBase o m env w = w := by
  cases o with
  | Call f a k p =>
    cases f with
    | Name id q =>
      cases a with
      | nil =>
        cases k with
        | nil => exact abase_call h
        | cons _ _ => rfl
      | cons _ _ => rfl
    | _ => rfl
  | _ => rfl
def notSlice : Expr → Bool
  | .Slice .. => false
  | _ => true
theorem plainIx_of {b : Expr} (h : notSlice b = true) : PlainIx b := fun o i => by
  cases b <;> first | rfl | cases h
def plainTest : Expr → Bool
  | .BoolOp .. => false
  | .UnaryOp .Not _ _ => false
  | .Compare .. => false
  | .NamedExpr .. => false
  | .IfExp .. => false
  | _ => true
/-! ### subscripts -/
def oIxA : O2 := fun x y C Q => match x with
  | .tup ds => ∃ i d, y = .int i ∧ atI ds i = some d ∧ Q d C
  | .rls ds => ∃ i d, y = .int i ∧ atI ds i = some d ∧ Q d C
  | .str z => ∃ i c, y = .int i ∧ z.length ≤ sizeLine ∧ atI z.cps.toList i = some c ∧ Q (.str ⟨#[c]⟩) C
  | .ref p => match C p with
    | some (.lst ds) => ∃ i d, y = .int i ∧ atI ds i = some d ∧ Q d C
    | some (.dic kvs) => ∃ k d, keyD y = some k ∧ valC kvs k = some d ∧ Q d C
    | _ => False
  | _ => False
theorem oIxA_cases {x y : D} {C : CH} {Q : Kv} (h : oIxA x y C Q) : oIx x y C Q ∨ (oIxS x y C Q ∨ oGet x y C Q) := by
  unfold oIxA at h
  cases x with
  | tup ds => obtain ⟨i, d, h1, h2, h3⟩ := h; exact .inl ⟨ds, i, d, .inl rfl, h1, h2, h3⟩
  | rls ds => obtain ⟨i, d, h1, h2, h3⟩ := h; exact .inl ⟨ds, i, d, .inr (.inl rfl), h1, h2, h3⟩
  | str z => obtain ⟨i, c, h1, h2, h3, h4⟩ := h; exact .inr (.inl ⟨z, i, c, rfl, h1, h2, h3, h4⟩)
  | ref p =>
    simp only at h
    cases e : C p with
    | none => rw [e] at h; exact h.elim
    | some o =>
      rw [e] at h
      cases o with
      | lst ds => obtain ⟨i, d, h1, h2, h3⟩ := h; exact .inl ⟨ds, i, d, .inr (.inr ⟨p, rfl, e⟩), h1, h2, h3⟩
      | dic kvs => obtain ⟨k, d, h1, h2, h3⟩ := h; exact .inr (.inr ⟨p, kvs, k, d, rfl, e, h1, h2, h3⟩)
      | dtk kvs => exact h.elim
      | ins c fs => exact h.elim
  | _ => exact h.elim
section
variable {X : Cx} {cl : ClsT} {H0 : Hp} {C0 : CH} {a b e o : Expr} {es : List Expr} {ca cb co : CTE} {cs : CTA} {pos : Pos}
def rIxA (K : PySem.W.Frag) : R2 := fun x y H Q => (rIxL K x y H Q ∨ rIxT K x y H Q) ∨ (rIxS x y H Q ∨ rGetV x y H Q)
theorem ixR_A (hu : X.A.units + 1 < cLine) : IxR X (rIxA X.K) := (ix_list.or ix_tup).or (ix_str.or (ix_dict hu))
theorem lk_ixA {K : PySem.W.Frag} : Lk2 K cl (rIxA K) oIxA := fun H C d e v u Q Qc rd re R h hq => by
  rcases oIxA_cases h with h | h | h
  · exact .inl (lk_ix H C d e v u Q Qc rd re R h hq)
  · exact .inr (.inl (lk_ixS H C d e v u Q Qc rd re R h hq))
  · exact .inr (.inr (lk_get H C d e v u Q Qc rd re R h hq))
theorem cpe_ix (hu : X.A.units + 1 < cLine) (ha : CPE X cl H0 C0 a ca) (hb : CPE X cl H0 C0 b cb) (hs : notSlice b = true) : CPE X cl H0 C0 (.Subscript a b pos) (cBin oIxA ca cb) :=
  (pe_ix (ixR_A hu) ha hb (plainIx_of hs)).imp (tOp_of (ta := tE X.K cl H0 C0 ca) (tb := tE X.K cl H0 C0 cb) lk_ixA)
/-! slices -/
abbrev CTO := Env3 → CH → (Option Int → CH → Prop) → Prop
def tO (K : PySem.W.Frag) (cl : ClsT) (H0 : Hp) (C0 : CH) (c : CTO) : TO := fun σ H Q => ∃ σc C Qc, S3 K cl H0 C0 σ H σc C ∧ c σc C Qc ∧ ∀ i C' H', Qc i C' → Rel K cl H' C' → Keep H C H' C' → Q i H'
def CPO (X : Cx) (cl : ClsT) (H0 : Hp) (C0 : CH) (e : Option Expr) (c : CTO) : Prop := PO X e (tO X.K cl H0 C0 c)
def cNoPart : CTO := fun _ C Q => Q none C
def cPart (a : CTE) : CTO := fun σ C Q => a σ C fun d C1 => ∃ i, d = .int i ∧ Q (some i) C1
theorem cpo_none : CPO X cl H0 C0 none cNoPart := ⟨fun pins s σ H Q I ⟨σc, C, Qc, S, h, hq⟩ => po_none.run pins s σ H Q I (hq _ _ _ h S.r Keep.refl)⟩
theorem cpo_some (he : CPE X cl H0 C0 e ca) : CPO X cl H0 C0 (some e) (cPart ca) := ⟨fun pins s σ H Q I ⟨σc, C, Qc, S, h, hq⟩ => (po_some he).run pins s σ H Q I ⟨σc, C, _, S, h, fun d C1 v H1 ⟨i, h1, h2⟩ rv R1 k1 => by
  subst h1; cases rv
  exact ⟨i, rfl, hq _ _ _ h2 R1 k1⟩⟩⟩
def cutD (ds : List D) (lo hi : Option Int) : List D := (ds.drop (HT.sIx ds.length 0 lo)).take (HT.sIx ds.length ds.length hi - HT.sIx ds.length 0 lo)
def oSl (x : D) (lo hi : Option Int) : CH → Kv → Prop := fun C Q => match x with
  | .tup ds => Q (.tup (cutD ds lo hi)) C
  | .str z => z.length ≤ sizeLine ∧ Q (.str (cutS z lo hi)) C
  | .ref p => (∃ ds, LsC C p ds ∧ ∀ l, C l = none → Q (.ref l) (cup C l (.lst (cutD ds lo hi))))
  | _ => False
def cSl (a : CTE) (l h : CTO) : CTE := fun σ C Q => a σ C fun d C1 => l σ C1 fun lo C2 => h σ C2 fun hi C3 => oSl d lo hi C3 Q
theorem RepL.cut {K : PySem.W.Frag} {H : Hp} {ds : List D} {vs : List V} (h : RepL K H ds vs) (lo hi : Option Int) : RepL K H (cutD ds lo hi) (cutV vs lo hi) := by
  unfold cutD cutV
  rw [← h.length]
  exact (h.drop _).take _
theorem sIx_whole {n : Nat} {lo hi : Option Int} (h : HT.sIx n 0 lo = 0 ∧ HT.sIx n n hi = n) (ds : List D) (e : ds.length = n) : cutD ds lo hi = ds := by
  unfold cutD
  rw [e, h.1, h.2, List.drop_zero, Nat.sub_zero, ← e, List.take_length]
theorem cpe_slice {lo hi : Option Expr} {cl' ch : CTO} {p2 : Pos} (ha : CPE X cl H0 C0 a ca) (hl : CPO X cl H0 C0 lo cl') (hh : CPO X cl H0 C0 hi ch) : CPE X cl H0 C0 (.Subscript a (.Slice lo hi none p2) pos) (cSl ca cl' ch) :=
  (pe_slice (sl_tupA.or (sl_list.or sl_str)) ha hl hh).imp fun σ H Q ⟨σc, C, Qc, S, h, hq⟩ => ⟨σc, C, _, S, h, fun d C1 v H1 h1 rv R1 k1 => ⟨σc, C1, _, S.step k1 R1, h1, fun l C2 H2 h2 R2 k2 => ⟨σc, C2, _, (S.step k1 R1).step k2 R2, h2, fun u C3 H3 h3 R3 k3 => by
    have rv3 := (rv.keep R1 k2).keep R2 k3
    have hq3 := hq.from_ ((k1.trans k2).trans k3)
    cases d with
    | tup ds =>
      cases rv3 with
      | tup sq rr =>
        refine .inl ⟨_, _, rfl, sq, fun hw => ?_, fun hw p hp => hq3.tup h3 (rr.cut l u) R3 hp⟩
        have h3' : Qc (.tup (cutD ds l u)) C3 := h3
        rw [sIx_whole hw ds rr.length] at h3'
        exact hq3.now h3' (.tup sq rr) R3
    | str z =>
      cases rv3
      exact .inr (.inr ⟨z, rfl, h3.1, hq3.now h3.2 (.str _) R3⟩)
    | ref p =>
      cases rv3
      obtain ⟨ds, hl, q⟩ := h3
      obtain ⟨vs, sq, rr⟩ := R3.ls hl
      exact .inr (.inl ⟨p, vs, rfl, sq, fun p' hp => hq3.lst (rr.cut l u) R3 hp (q p' (free_of R3 hp))⟩)
    | _ => exact h3.elim⟩⟩⟩
/-! ### methods of built-ins -/
abbrev OM := D → List D → CH → Kv → Prop
def LkM (K : PySem.W.Frag) (cl : ClsT) (r : V → List V → Hp → VK → Prop) (o : OM) : Prop := ∀ H C d v ds vs Q Qc, Rep K H d v → RepL K H ds vs → Rel K cl H C → o d ds C Qc → EndE K cl H C Qc Q → r v vs H Q
def LkTy (K : PySem.W.Frag) (cl : ClsT) (T : String) (ty : D → CH → Prop) : Prop := ∀ H C d v, Rep K H d v → Rel K cl H C → ty d C → tyV K T v H
def cMt (ty : D → CH → Prop) (o : OM) (co : CTE) (ca : CTA) : CTE := fun σ C Q => co σ C fun d C1 => ty d C1 ∧ ca σ C1 fun ds C2 => o d ds C2 Q
def isLst (d : D) (C : CH) : Prop := ∃ p xs, d = .ref p ∧ LsC C p xs
def isStr (d : D) (_ : CH) : Prop := ∃ z, d = .str z
def isDic (d : D) (C : CH) : Prop := ∃ p kvs, d = .ref p ∧ C p = some (.dic kvs)
theorem lkTy_lst {K : PySem.W.Frag} : LkTy K cl "list" isLst := fun H C d v r R ⟨p, xs, e, h⟩ => by
  subst e; cases r
  obtain ⟨vs, h1, _⟩ := R.ls h
  exact .inl ⟨rfl, vs, h1⟩
theorem lkTy_str {K : PySem.W.Frag} : LkTy K cl "str" isStr := fun H C d v r R ⟨z, e⟩ => by subst e; cases r; exact rfl
theorem lkTy_dic {K : PySem.W.Frag} : LkTy K cl "dict" isDic := fun H C d v r R ⟨p, kvs, e, h⟩ => by
  subst e; cases r
  obtain ⟨vs, h1, _⟩ := R p _ h
  exact .inr (.inr (.inl ⟨rfl, .inl ⟨vs, h1⟩⟩))
theorem few_of {env : Env} {pos : Pos} (h : es.all notStar = true) (hl : es.length < 30) : ((backTo pos (starEach es env)).all (fun x => !x.1) && (backToKw pos (keywordEach [] env)).all (fun x => x.1.isSome)
      && decide (es.length + ([] : List Keyword).length + (if ([] : List Keyword).isEmpty then 0 else 1) < 30)) = true := by
  have e1 : (backTo pos (starEach es env)).all (fun x => !x.1) = true := by
    have := star_any (env := env) (pos := pos) h
    rw [List.all_eq_not_any_not]
    simpa using this
  rw [e1]
  show (true && true && decide (es.length + 0 + 0 < 30)) = true
  rw [decide_eq_true (by omega)]
  rfl
theorem cpe_mt {T id : String} {name : Str} {apos cpos : Pos} {r : V → List V → Hp → VK → Prop} {ty : D → CH → Prop} {om : OM} (pa : PlainAttrs T) (slot : Slot T name id) (hty : typeOf (.builtin id) = pure (.type "method_descriptor")) (hm : MtR X id r)
    (l : LkM X.K cl r om) (lt : LkTy X.K cl T ty) (ho : CPE X cl H0 C0 o co) (ha : CPA X cl H0 C0 es cs) (h0 : es = [] → cs = cNil) (hes : es.all notStar = true) (hl : es.length < 30) (hb : noSuper o = true) (hline : (apos.endLine == cpos.line) = true) :
    CPE X cl H0 C0 (.Call (.Attribute o name apos) es [] cpos) (cMt ty om co cs) := by
  cases es with
  | nil =>
    rw [h0 rfl]
    exact (pe_bm0 pa slot hty hm ho (base_of hb) hline).imp fun σ H Q ⟨σc, C, Qc, S, h, hq⟩ => ⟨σc, C, _, S, h, fun d C1 v H1 ⟨h1, h2⟩ rv R1 k1 => ⟨lt H1 C1 d v rv R1 h1, l H1 C1 d v [] [] Q Qc rv .nil R1 h2 (hq.from_ k1)⟩⟩
  | cons e es =>
    have hes' := hes
    rw [List.all_cons, Bool.and_eq_true] at hes'
    exact (pe_bm pa slot hty hm ho ha (base_of hb) (few_of hes hl) hline (star_of hes'.1) (star_any hes'.2)).imp fun σ H Q ⟨σc, C, Qc, S, h, hq⟩ => ⟨σc, C, _, S, h, fun d C1 v H1 ⟨h1, h2⟩ rv R1 k1 => ⟨lt H1 C1 d v rv R1 h1, σc, C1, _, S.step k1 R1, h2, fun ds C2 vs H2 h3 rs R2 k2 =>
      l H2 C2 d v ds vs Q Qc (rv.keep R1 k2) rs R2 h3 (hq.from_ (k1.trans k2))⟩⟩
def oAppend : OM := fun d ds C Q => ∃ p xs y, d = .ref p ∧ ds = [y] ∧ C p = some (.lst xs) ∧ xs.length < sizeLine ∧ Q .non (cup C p (.lst (xs ++ [y])))
theorem lk_append {K : PySem.W.Frag} : LkM K cl rAppend oAppend := fun H C d v ds vs Q Qc r rs R ⟨p, xs, y, h1, h2, h3, h4, q⟩ hq => by
  subst h1; subst h2; cases r
  obtain ⟨u, rfl, ru⟩ := rs.one
  obtain ⟨ws, e1, r1⟩ := R p _ h3
  exact ⟨p, ws, u, rfl, rfl, e1, by rw [← r1.length]; exact h4, hq _ _ _ _ q .non (R.wlst h3 e1 (r1.append (.cons ru .nil))) (Keep.write h3 _ _)⟩
def oExtend : OM := fun d ds C Q => ∃ p b xs ys, d = .ref p ∧ ds = [.ref b] ∧ C p = some (.lst xs) ∧ C b = some (.lst ys) ∧ xs.length + ys.length ≤ sizeLine ∧ Q .non (cup C p (.lst (xs ++ ys)))
theorem lk_extend {K : PySem.W.Frag} : LkM K cl rExtend oExtend := fun H C d v ds vs Q Qc r rs R ⟨p, b, xs, ys, h1, h2, h3, h4, h5, q⟩ hq => by
  subst h1; subst h2; cases r
  obtain ⟨u, rfl, ru⟩ := rs.one
  cases ru
  obtain ⟨ws, e1, r1⟩ := R p _ h3
  obtain ⟨us, e2, r2⟩ := R b _ h4
  exact ⟨p, b, ws, us, rfl, rfl, e1, e2, by rw [← r1.length, ← r2.length]; exact h5, hq _ _ _ _ q .non (R.wlst h3 e1 (r1.append r2)) (Keep.write h3 _ _)⟩
def oPop : OM := fun d ds C Q => ∃ p xs y, d = .ref p ∧ ds = [] ∧ C p = some (.lst xs) ∧ xs[xs.length - 1]? = some y ∧ Q y (cup C p (.lst xs.dropLast))
theorem lk_pop {K : PySem.W.Frag} : LkM K cl rPop oPop := fun H C d v ds vs Q Qc r rs R ⟨p, xs, y, h1, h2, h3, h4, q⟩ hq => by
  subst h1; subst h2; cases r; cases rs
  obtain ⟨ws, e1, r1⟩ := R p _ h3
  obtain ⟨u, e2, r2⟩ := r1.get h4
  exact ⟨p, ws, u, rfl, rfl, e1, by rw [← r1.length]; exact e2, hq _ _ _ _ q (r2.keep R (Keep.write h3 _ (.lst xs.dropLast))) (R.wlst h3 e1 r1.dropLast) (Keep.write h3 _ _)⟩
def oPopAt : OM := fun d ds C Q => ∃ p xs i k y, d = .ref p ∧ ds = [.int i] ∧ C p = some (.lst xs) ∧ -(2 ^ 63) ≤ i ∧ i < 2 ^ 63 ∧ seqIndex? i xs.length = some k ∧ xs[k]? = some y ∧ Q y (cup C p (.lst (xs.eraseIdx k)))
theorem lk_popAt {K : PySem.W.Frag} : LkM K cl rPopAt oPopAt := fun H C d v ds vs Q Qc r rs R ⟨p, xs, i, k, y, h1, h2, h3, h4, h5, h6, h7, q⟩ hq => by
  subst h1; subst h2; cases r
  obtain ⟨w, rfl, rw'⟩ := rs.one
  cases rw'
  obtain ⟨ws, e1, r1⟩ := R p _ h3
  obtain ⟨u, e2, r2⟩ := r1.get h7
  exact ⟨p, ws, i, k, u, rfl, rfl, e1, h4, h5, by rw [← r1.length]; exact h6, e2, hq _ _ _ _ q (r2.keep R (Keep.write h3 _ (.lst (xs.eraseIdx k)))) (R.wlst h3 e1 (r1.eraseIdx k)) (Keep.write h3 _ _)⟩
def oJoin : OM := fun d ds C Q => ∃ a x ys, d = .str a ∧ ds = [x] ∧ SqC C x (ys.map D.str) ∧ (ys.map (·.length)).sum + ys.length * a.length ≤ 16777216 ∧ Q (.str (Txt.join a ys)) C
def rJoin (K : PySem.W.Frag) : V → List V → Hp → VK → Prop := fun x xs H Q => ∃ a p, ∃ ys : List Str, x = .str a ∧ xs = [.ref p] ∧ (SqL K H p (ys.map V.str) ∨ SqT K H p (ys.map V.str)) ∧
    (ys.map (·.length)).sum + ys.length * a.length ≤ 16777216 ∧ Q (.str (Txt.join a ys)) H
theorem lk_join {K : PySem.W.Frag} : LkM K cl (rJoin K) oJoin := fun H C d v ds vs Q Qc r rs R ⟨a, x, ys, h1, h2, h3, h4, q⟩ hq => by
  subst h1; subst h2; cases r
  obtain ⟨w, rfl, rw'⟩ := rs.one
  obtain ⟨p, us, rfl, h, rr⟩ := R.sq h3 rw'
  have e := rr.strs
  subst e
  exact ⟨a, p, ys, rfl, rfl, h, h4, hq.now q (.str _) R⟩
theorem lk_allB {K : PySem.W.Frag} : LkL K cl (rAll K) (oAll fun bs => .bl (bs.all id)) := fun H C ds vs Q Qc rs R ⟨p, bs, h1, h2, q⟩ hq => by
  subst h1
  obtain ⟨v, rfl, r⟩ := rs.one
  cases r
  obtain ⟨us, e1, r1⟩ := R.ls h2
  have e2 := r1.bls
  subst e2
  exact ⟨p, bs, rfl, e1, hq.now q (.bl _) R⟩
theorem lk_anyB {K : PySem.W.Frag} : LkL K cl (rAny K) (oAll fun bs => .bl (bs.any id)) := fun H C ds vs Q Qc rs R ⟨p, bs, h1, h2, q⟩ hq => by
  subst h1
  obtain ⟨v, rfl, r⟩ := rs.one
  cases r
  obtain ⟨us, e1, r1⟩ := R.ls h2
  have e2 := r1.bls
  subst e2
  exact ⟨p, bs, rfl, e1, hq.now q (.bl _) R⟩
/-! ### attributes -/
structure ClsOk (K : PySem.W.Frag) (Ca : Addr) : Prop where
  cls : Cls K Ca
  ha : PySem.W.findIn K (.ref Ca) "__class__" = some (some (.builtin "object.__class__"))
  hn : PySem.W.specialIn K (.builtin "object.__class__") "__get__" = some (some (.builtin "getset_descriptor.__get__"))
  htk : PySem.W.takesIn K (.builtin "object.__class__") = some true
  hm : PySem.W.mroIn K Ca (.type "object") = some true
def cAttr (f : Str) (ok : Nat → Prop) (a : CTE) : CTE := fun σ C Q => a σ C fun d C1 => ∃ p c fs v, d = .ref p ∧ C1 p = some (.ins c fs) ∧ ok c ∧ fs.lookup f = some v ∧ Q v C1
theorem cpe_attr {f : Str} {ok : Nat → Prop} (hok : ∀ c Ca, ok c → cl c = some Ca → Cls X.K Ca ∧ NoAttr X.K Ca f) (he : CPE X cl H0 C0 e ca) (hb : noSuper e = true) : CPE X cl H0 C0 (.Attribute e f pos) (cAttr f ok ca) :=
  (pe_fld he (base_of hb)).imp fun σ H Q ⟨σc, C, Qc, S, h, hq⟩ => ⟨σc, C, _, S, h, fun d C1 v H1 ⟨p, c, fs, z, h1, h2, h3, h4, q⟩ rv R1 k1 => by
    subst h1; cases rv
    obtain ⟨Ca, dx, fv, hc, e1, rf⟩ := R1 p _ h2
    obtain ⟨w, e2, rw'⟩ := rf.lookup h4
    obtain ⟨k1', k2'⟩ := hok c Ca h3 hc
    exact ⟨p, Ca, dx, fv, w, rfl, e1, k1', k2', e2, (hq.from_ k1).now q rw' R1⟩⟩
theorem RepF.putF {K : PySem.W.Frag} {H : Hp} {f : Str} {d : D} {v : V} (r : Rep K H d v) : ∀ {ds : List (Str × D)} {vs : List (Str × V)}, RepF K H ds vs → ∃ ds', RepF K H ds' (L2.putF f v vs) ∧ ds'.length ≤ ds.length + 1 ∧ ∀ g, ds'.lookup g = if g = f then some d else ds.lookup g
  | _, _, .nil => ⟨[(f, d)], .cons r .nil, Nat.le_refl _, fun g => by
    rw [List.lookup_cons]
    by_cases hg : g = f
    · subst hg; simp
    · rw [if_neg hg, beq_eq_false_iff_ne.mpr hg]⟩
  | _, _, @RepF.cons _ _ _ k d' v' ds vs r' t => by
    by_cases hk : k = f
    · subst hk
      refine ⟨(k, d) :: ds, ?_, Nat.le_succ _, fun g => ?_⟩
      · show RepF K H ((k, d) :: ds) (if k = k then (k, v) :: vs else (k, v') :: L2.putF k v vs)
        rw [if_pos rfl]
        exact .cons r t
      · rw [List.lookup_cons, List.lookup_cons]
        by_cases hg : g = k
        · subst hg; simp
        · rw [if_neg hg, beq_eq_false_iff_ne.mpr hg]
    · obtain ⟨ds', h1, h2, h3⟩ := RepF.putF (f := f) r t
      refine ⟨(k, d') :: ds', ?_, Nat.succ_le_succ h2, fun g => ?_⟩
      · show RepF K H ((k, d') :: ds') (if k = f then (k, v) :: vs else (k, v') :: L2.putF f v vs)
        rw [if_neg hk]
        exact .cons r' h1
      · rw [List.lookup_cons, List.lookup_cons, h3]
        by_cases hg : g = k
        · subst hg; simp [hk]
        · rw [beq_eq_false_iff_ne.mpr hg]
end
/-- a field written -/
def putD (f : Str) (v : D) : List (Str × D) → List (Str × D)
  | [] => [(f, v)]
  | (g, u) :: r => if g = f then (f, v) :: r else (g, u) :: putD f v r
section
variable {X : Cx} {cl : ClsT} {H0 : Hp} {C0 : CH} {a b e o : Expr} {ca cb co : CTE} {pos : Pos}
theorem RepF.putD {K : PySem.W.Frag} {H : Hp} {f : Str} {d : D} {v : V} (r : Rep K H d v) : ∀ {ds : List (Str × D)} {vs : List (Str × V)}, RepF K H ds vs → RepF K H (L3.putD f d ds) (L2.putF f v vs)
  | _, _, .nil => .cons r .nil
  | _, _, @RepF.cons _ _ _ k d' v' ds vs r' t => by
    rw [L3.putD, L2.putF]
    by_cases hk : k = f
    · rw [if_pos hk, if_pos hk]; first | exact .cons r t | (subst hk; exact .cons r t)
    · rw [if_neg hk, if_neg hk]; exact .cons r' (RepF.putD r t)
def sFldC (f : Str) (ok : Nat → Prop) (a o : CTE) : CTS := fun D σ C => a σ C fun z C1 => o σ C1 fun d C2 => ∃ p c fs, d = .ref p ∧ C2 p = some (.ins c fs) ∧ ok c ∧ fs.length < 1000 ∧ D.nx σ (cup C2 p (.ins c (putD f z fs)))
theorem cps_fld {f : Str} {ok : Nat → Prop} {pos' : Pos} (hok : ∀ c Ca, ok c → cl c = some Ca → Cls X.K Ca ∧ NoAttr X.K Ca f) (ho : CPE X cl H0 C0 o co) (he : CPE X cl H0 C0 e ca) (hs : swapsWith e (some (.Attribute o f pos')) pos.line X.env = pure false) : CPS X cl H0 C0 (.Assign [.Attribute o f pos'] e pos) (sFldC f ok ca co) :=
  (ps_fld ho he hs).imp fun D σ H ⟨σc, C, Dc, S, h, hq⟩ => ⟨σc, C, _, S, h, fun z C1 w H1 h1 rz R1 k1 => ⟨σc, C1, _, S.step k1 R1, h1, fun d C2 v H2 ⟨p, c, fs, h2, h3, h4, h5, q⟩ rv R2 k2 => by
    subst h2; cases rv
    obtain ⟨Ca, dx, fv, hc, e1, rf⟩ := R2 p _ h3
    obtain ⟨k3, k4⟩ := hok c Ca h4 hc
    have kw : Keep H2 C2 (upd H2 p (.ins Ca dx (L2.putF f w fv))) (cup C2 p (.ins c (putD f z fs))) := Keep.write h3 _ _
    refine ⟨p, Ca, dx, fv, rfl, e1, k3, k4, by rw [← rf.length]; exact h5, hq.nx _ _ _ _ q ((((S.step k1 R1).step k2 R2).s).keep R2 kw) (R2.write h3 e1 (fun xs h => ?_) ⟨Ca, dx, _, hc, upd_same, ((RepF.putD (rz.keep R1 k2) rf).keep R2 kw)⟩) ((k1.trans k2).trans kw)⟩
    rcases h with h | ⟨u, h⟩ <;> (rw [e1] at h; cases h)⟩⟩
end
end L3

namespace L3
open PySem L2
section
variable {X : Cx} {cl : ClsT} {H0 : Hp} {C0 : CH} {pos : Pos} {ex : Kxs}
/-! ### isinstance -/
/-- a value's type: a built-in one by name, an own class by number -/
def tyC (C : CH) : D → Option (String ⊕ Nat)
  | .non => some (.inl "NoneType")
  | .bl _ => some (.inl "bool")
  | .int _ => some (.inl "int")
  | .str _ => some (.inl "str")
  | .tup _ => some (.inl "tuple")
  | .rls _ => some (.inl "list")
  | .ty _ => none
  | .ref a => match C a with
    | some (.lst _) => some (.inl "list")
    | some (.dic _) => some (.inl "dict")
    | some (.dtk _) => none
    | some (.ins c _) => some (.inr c)
    | none => none
def tyVal (cl : ClsT) : String ⊕ Nat → Option Value
  | .inl n => some (.type n)
  | .inr c => (cl c).map .ref
theorem tyC_ok {K : PySem.W.Frag} {H : Hp} {C : CH} {d : D} {v : V} {t : String ⊕ Nat} (hc : ∀ c Ca, t = .inr c → cl c = some Ca → ClsOk K Ca) (r : Rep K H d v) (R : Rel K cl H C) (e : tyC C d = some t) : ∃ u, tyVal cl t = some u ∧ TyX K H v u := by
  cases r with
  | non => cases e; exact ⟨_, rfl, .base .non⟩
  | bl b => cases e; exact ⟨_, rfl, .base (.bl b)⟩
  | int b => cases e; exact ⟨_, rfl, .base (.int b)⟩
  | str b => cases e; exact ⟨_, rfl, .base (.str b)⟩
  | ty n => cases e
  | tup s _ =>
    cases e
    refine ⟨_, rfl, ?_⟩
    rcases s with (s | ⟨o, s⟩) | ⟨o, _, _, h1, h2, _⟩
    · exact .base (.tup s)
    · exact .fTuple s
    · exact .kTuple h1 h2
  | rls s _ =>
    cases e
    refine ⟨_, rfl, ?_⟩
    rcases s with ⟨o, s⟩ | ⟨o, _, _, h1, h2, _⟩
    · exact .base (.frz s)
    · exact .kList h1 h2
  | ref a =>
    unfold tyC at e
    simp only at e
    cases q : C a with
    | none => rw [q] at e; cases e
    | some o =>
      rw [q] at e
      have ok := R a o q
      cases o with
      | lst ds => cases e; obtain ⟨vs, h, _⟩ := ok; exact ⟨_, rfl, .base (.lst h)⟩
      | dic ds => cases e; obtain ⟨vs, h, _⟩ := ok; exact ⟨_, rfl, .base (.dK h)⟩
      | dtk ds => cases e
      | ins c ds =>
        cases e
        obtain ⟨Ca, dx, vs, h0, h, _⟩ := ok
        have k := hc c Ca rfl h0
        exact ⟨.ref Ca, by show (cl c).map Value.ref = _; rw [h0]; rfl, .base (.ins h k.cls k.ha k.hn k.htk k.hm)⟩
/-- isinstance(e, T): kit tells what is of what -/
def oIsi (kit : String ⊕ Nat → String ⊕ Nat → Option Bool) (u : String ⊕ Nat) : O1 := fun d C Q => ∃ t b, tyC C d = some t ∧ kit t u = some b ∧ Q (.bl b) C
def KitOk (K : PySem.W.Frag) (cl : ClsT) (kit : String ⊕ Nat → String ⊕ Nat → Option Bool) : Prop := ∀ t u b vt, kit t u = some b → tyVal cl t = some vt → ∃ vu, tyVal cl u = some vu ∧ PySem.W.kitOne K vt vu = some b
theorem cpe_isi {kit : String ⊕ Nat → String ⊕ Nat → Option Bool} {u : String ⊕ Nat} {e c : Expr} {ca : CTE} {p : Pos} {vc : V} (hkit : KitOk X.K cl kit) (hcl : ∀ c Ca b, kit (.inr c) u = some b → cl c = some Ca → ClsOk X.K Ca) (he : CPE X cl H0 C0 e ca) (hc : PE X c (tC vc)) (hcv : ∀ w, tyVal cl u = some w → ClsV vc w) (hg : Gl X "isinstance") (hm : X.mg "isinstance" = none)
    (h1 : notStar e = true) (h2 : notStar c = true) : CPE X cl H0 C0 (.Call (.Name "isinstance" p) [e, c] [] pos) (cUn (oIsi kit u) ca) :=
  (pe_callB call_isi hg hm (by decide +kernel) (pa_cons he (pa_cons hc pa_nil (star_of h2)) (star_of h1)) (by decide) (by decide) (star_of h1) (star_any (by simp [h2]))).imp fun σ H Q ⟨σc, C, Qc, S, h, hq⟩ => ⟨σc, C, _, S, h, fun d C1 v H1 ⟨t, b, e1, e2, q⟩ rv R1 k1 => by
    obtain ⟨w, e3, ty⟩ := tyC_ok (fun c Ca z hc' => hcl c Ca b (by rw [← z]; exact e2) hc') rv R1 e1
    obtain ⟨wu, e4, e5⟩ := hkit t u b w e2 e3
    exact ⟨v, vc, w, wu, b, rfl, hcv wu e4, ty, e5, (hq.from_ k1).now q (.bl b) R1⟩⟩
/-! ### raise -/
/-- raise X("..") of an own class without __init__ -/
def sRaise (c : Nat) (ex : Kxs) : CTS := fun _ σ C => ex ⟨c, []⟩ σ C
theorem cps_raise {c : Nat} {Ca : Addr} {bmB : List Value} {B newId initId : String} {x m : Str} {j : Nat} {p p2 pos' : Pos} (hc : cl c = some Ca) (F : ExcBaseFacts B newId initId bmB) (q : PySem.W.excIn X.K Ca bmB newId = true) (gC : X.mg x = some (.ref Ca)) (kC : PySem.W.keepIn X.K (.ref Ca) = true) (r : Raises X (.ref Ca)) (hg : Gl X x)
    (hdb : (x == ("__debug__" : Str)) = false) (hcalm : X.calm = true) (tk : Takes X (WC X.K cl H0 C0 ex)) : CPS X cl H0 C0 (.Raise (some (.Call (.Name x p) [.Constant (.str m) j p2] [] pos')) none pos) (sRaise c ex) :=
  (ps_raise hcalm tk (pmk_own F q gC kC r hg hdb)).imp fun D σ H ⟨σc, C, Dc, S, h, hq⟩ => ⟨_, σc, C, h, ⟨Ca, hc, rfl, .inl ⟨rfl, rfl⟩⟩, S⟩
/-! ### try: body, except X: suite -/
/-- the suite is one of few forms: nothing is called in it -/
def sTry (sub : Nat → Bool) (b : Kxs → CTS) (s : CTS) (ex : Kxs) : CTS := fun D σ C => b (fun x σ1 C1 => if sub x.cls = true then s D σ1 C1 else ex x σ1 C1) D σ C
/-- every class of the program that is raised is told apart by the clause -/
def SubOk (K : PySem.W.Frag) (cl : ClsT) (c : Value) (sub : Nat → Bool) : Prop := ∀ i Ca, cl i = some Ca → PySem.W.exmOne K (.ref Ca) c = some (sub i)
theorem cps_try {x : Str} {c : Value} {body suite : List Stmt} {b0 : Stmt} {np pos' : Pos} {sub : Nat → Bool} {b : Kxs → CTS} {s : CTS} (hs : X.stack = X.env :: X.outer) (hf : X.env.frame = some X.env.locals) (hc : Names X x c) (hsub : SubOk X.K cl c sub) (tk : Takes X (WC X.K cl H0 C0 ex))
    (hb : ∀ (pn : List (Addr × Obj)) (xe : Value → Shared → Prop) (ex' : Kxs) (H1 : Hp) (C1 : CH), Takes (X.tr pn xe) (WC X.K cl H1 C1 ex') → PassesOwn (model X.prog X.w) X.A X.env xe → CPSs (X.tr pn xe) cl H1 C1 body (b ex'))
    (hsu : ∀ (a : Addr) (oe : Obj) (pn : List (Addr × Obj)), CPSs (X.suite a ((a, oe) :: pn)) cl H0 C0 (b0 :: suite) s) :
    CPS X cl H0 C0 (.Try body [.ExceptHandler (some (.Name x np)) none (b0 :: suite) pos'] [] [] pos) (sTry sub b s ex) :=
  (ps_try_only (tb := fun W D σ H => ∃ ex' H1 C1, (∀ cls d σ H, WC X.K cl H1 C1 ex' cls d σ H → W cls d σ H) ∧ tS X.K cl H1 C1 (b ex') D σ H) (ts := fun _ _ _ => tS X.K cl H0 C0 s) hs hf hc tk (fun W pn xe tk' po => ⟨fun pins st σ H D I ⟨ex', H1, C1, hw, h⟩ => (hb pn xe ex' H1 C1 (tk'.imp hw) po).run pins st σ H D I h⟩)
    fun a oe cls d pn _ _ => hsu a oe pn).imp fun D σ H ⟨σc, C, Dc, S, h, hq⟩ => by
    refine ⟨_, H, C, fun cls d σ' H' ⟨y, σ1, C1, hy, ⟨Ca, e1, e2, e3⟩, S1⟩ => ?_, σc, C, Dc, ⟨S.s, S.r, Keep.refl⟩, h, hq⟩
    subst e2
    have hy' : if sub y.cls = true then s Dc σ1 C1 else ex y σ1 C1 := hy
    have S2 : S3 X.K cl H0 C0 σ' H' σ1 C1 := ⟨S1.s, S1.r, S.f.trans S1.f⟩
    refine ⟨_, hsub _ _ e1, fun hyes a ha => ?_, fun hno => ?_⟩
    · rw [if_pos hyes] at hy'
      exact ⟨σ1, C1, Dc, S2, hy', hq.from_ S1.f⟩
    · rw [hno] at hy'
      exact ⟨y, σ1, C1, hy', ⟨Ca, e1, rfl, e3⟩, S2⟩
/-- except X as n -/
theorem cps_try_as {x n : Str} {i : Nat} {c : Value} {body suite : List Stmt} {b0 : Stmt} {np pos' : Pos} {sub : Nat → Bool} {b : Kxs → CTS} {s : Nat → CTS} (hs : X.stack = X.env :: X.outer) (hf : X.env.frame = some X.env.locals) (hN : X.N.Nodup) (hi : X.N[i]? = some n) (hln : X.env.kindOf n = some .local) (hc : Names X x c) (hsub : SubOk X.K cl c sub) (tk : Takes X (WC X.K cl H0 C0 ex))
    (hb : ∀ (pn : List (Addr × Obj)) (xe : Value → Shared → Prop) (ex' : Kxs) (H1 : Hp) (C1 : CH), Takes (X.tr pn xe) (WC X.K cl H1 C1 ex') → PassesOwn (model X.prog X.w) X.A X.env xe → CPSs (X.tr pn xe) cl H1 C1 body (b ex'))
    (hsu : ∀ (a : Addr) (oe : Obj) (pn : List (Addr × Obj)) (k : Nat), CPSs (X.suite a ((a, oe) :: pn)) cl H0 C0 (b0 :: suite) (s k)) :
    CPS X cl H0 C0 (.Try body [.ExceptHandler (some (.Name x np)) (some n) (b0 :: suite) pos'] [] [] pos)
      (fun D σ C => b (fun y σ1 C1 => if sub y.cls = true then ∀ a, C1 a = none → s y.cls { D with nx := fun σ' C' => D.nx (σ'.set i none) C', bk := fun σ' C' => D.bk (σ'.set i none) C', ct := fun σ' C' => D.ct (σ'.set i none) C' } (σ1.set i (some (.ref a))) C1 else ex y σ1 C1) D σ C) :=
  (ps_try_as (tb := fun W D σ H => ∃ ex' H1 C1, (∀ cls d σ H, WC X.K cl H1 C1 ex' cls d σ H → W cls d σ H) ∧ tS X.K cl H1 C1 (b ex') D σ H) (ts := fun _ cls _ D σ H => ∃ k, tS X.K cl H0 C0 (s k) D σ H) hs hf hN hi hln hc tk (fun W pn xe tk' po => ⟨fun pins st σ H D I ⟨ex', H1, C1, hw, h⟩ => (hb pn xe ex' H1 C1 (tk'.imp hw) po).run pins st σ H D I h⟩)
    fun a oe cls d pn _ _ => ⟨fun pins st σ H D I ⟨k, h⟩ => (hsu a oe pn k).run pins st σ H D I h⟩).imp fun D σ H ⟨σc, C, Dc, S, h, hq⟩ => by
    refine ⟨_, H, C, fun cls d σ' H' ⟨y, σ1, C1, hy, ⟨Ca, e1, e2, e3⟩, S1⟩ => ?_, σc, C, Dc, ⟨S.s, S.r, Keep.refl⟩, h, hq⟩
    subst e2
    have hy' : if sub y.cls = true then ∀ a, C1 a = none → s y.cls { Dc with nx := fun σ' C' => Dc.nx (σ'.set i none) C', bk := fun σ' C' => Dc.bk (σ'.set i none) C', ct := fun σ' C' => Dc.ct (σ'.set i none) C' } (σ1.set i (some (.ref a))) C1 else ex y σ1 C1 := hy
    have S2 : S3 X.K cl H0 C0 σ' H' σ1 C1 := ⟨S1.s, S1.r, S.f.trans S1.f⟩
    refine ⟨_, hsub _ _ e1, fun hyes a ha => ?_, fun hno => ?_⟩
    · rw [if_pos hyes] at hy'
      have hq1 := hq.from_ S1.f
      exact ⟨y.cls, _, C1, _, ⟨S2.s.set (.ref a) i, S2.r, S2.f⟩, hy' a (free_of S2.r ha), ⟨fun σc' C' σ'' H'' q r R k => hq1.nx _ _ _ _ q (r.wipe1 i) R k, hq1.rt, fun σc' C' σ'' H'' q r R k => hq1.bk _ _ _ _ q (r.wipe1 i) R k, fun σc' C' σ'' H'' q r R k => hq1.ct _ _ _ _ q (r.wipe1 i) R k⟩⟩
    · rw [hno] at hy'
      exact ⟨y, σ1, C1, hy', ⟨Ca, e1, rfl, e3⟩, S2⟩
end
/-! ### a def's body keeps its promise -/
def start3 (N : List Str) (ds : List D) : Env3 := ds.map some ++ List.replicate (N.length - ds.length) none
theorem start_rep {K : PySem.W.Frag} {H : Hp} {N : List Str} {ds : List D} {vs : List V} (r : RepL K H ds vs) : RepS K H (start3 N ds) (L2.start N vs) := by
  unfold start3 L2.start
  rw [r.length]
  have tail : ∀ n : Nat, RepS K H (List.replicate n none) (List.replicate n none) := by
    intro n
    induction n with
    | zero => exact .nil
    | succ n ih => rw [List.replicate_succ, List.replicate_succ]; exact .no ih
  have go : ∀ {ds : List D} {vs : List V} {n : Nat}, RepL K H ds vs → RepS K H (ds.map some ++ List.replicate n none) (vs.map some ++ List.replicate n none) := by
    intro ds
    induction ds with
    | nil => intro vs n r; cases r; exact tail n
    | cons d ds ih =>
      intro vs n r
      cases r with
      | cons r t => exact .so r (ih t)
  exact go r
/-- what the clean rules ask of a context -/
structure XOk (P : Program) (w : World) (K : PySem.W.Frag) (mg : Str → Option Value) (base : Heap) (n : Nat) (N : List Str) (sc : Scope) (top : Bool) (X : Cx) : Prop where
  P_ : X.prog = P
  w_ : X.w = w
  K_ : X.K = K
  mg_ : X.mg = mg
  base_ : X.base = base
  N_ : X.N = N
  nd : N.Nodup
  sc_ : X.env.scope = sc
  kind : sc.kind = .function
  calm : X.calm = true
  room : Room n X.A
  loc : top = true → ∀ x, Loc sc x → X.fn x = true ∨ sc.names.lookup x = some .local
  po : PassesOwn (model X.prog X.w) X.A X.env X.xe
  gd : X.A.guards = some []
  fr : top = true → X.stack = X.env :: X.outer ∧ X.env.frame = some X.env.locals
end L3

namespace L3
open PySem L2 PySem.Spec PyProof.Rows
/-! ### == of deep data -/
def deepOk (p : PyData) : Bool := p.canLay0 && decide (p.depth ≤ 350)
def oEqN (f : Bool → Bool) : O2 := fun x y C Q => ∃ p q, Snap C x p ∧ Snap C y q ∧ deepOk p = true ∧ deepOk q = true ∧ Q (.bl (f (PyData.eqv p q))) C
def rEqN (f : Bool → Bool) (K : PySem.W.Frag) : R2 := fun x y H Q => ∃ d e, Dp K H x d ∧ Dp K H y e ∧ deepOk d = true ∧ deepOk e = true ∧ Q (.bl (f (PyData.eqv d e))) H
section
variable {X : Cx} {cl : ClsT} {K : PySem.W.Frag}
theorem op_eqN (hu : X.A.units + 350 < cLine) : OpR X (compareOp .Eq) (rEqN id X.K) := by
  intro pins s σ H x y v u Q I rx ry h
  obtain ⟨d, e, hd, he, sd, se, q⟩ := h
  obtain ⟨as, r1⟩ := Dp.reads I d x v hd rx
  obtain ⟨bs, r2⟩ := Dp.reads I e y u he ry
  unfold deepOk at sd se
  simp only [Bool.and_eq_true, decide_eq_true_eq] at sd se
  have h2 : min d.depth e.depth ≤ d.depth := Nat.min_le_left _ _
  exact SeqAt.compareEq_reads r1 r2 sd.1 se.1 (by omega) ⟨.bl _, H, I, rfl, q⟩
theorem op_neN (hu : X.A.units + 350 < cLine) : OpR X (compareOp .NotEq) (rEqN not X.K) := by
  intro pins s σ H x y v u Q I rx ry h
  obtain ⟨d, e, hd, he, sd, se, q⟩ := h
  obtain ⟨as, r1⟩ := Dp.reads I d x v hd rx
  obtain ⟨bs, r2⟩ := Dp.reads I e y u he ry
  unfold deepOk at sd se
  simp only [Bool.and_eq_true, decide_eq_true_eq] at sd se
  have h2 : min d.depth e.depth ≤ d.depth := Nat.min_le_left _ _
  exact SeqAt.compareNe_reads r1 r2 sd.1 se.1 (by omega) ⟨.bl _, H, I, rfl, q⟩
theorem lk_eqN (f : Bool → Bool) : Lk2 K cl (rEqN f K) (oEqN f) := fun H C d e v u Q Qc rd re R ⟨p, q, h1, h2, h3, h4, h5⟩ hq => ⟨p, q, h1.dp R rd, h2.dp R re, h3, h4, hq.now h5 (.bl _) R⟩
/-! ### tuple * int -/
def oMulT : O2 := fun x y C Q => ∃ xs k, x = .tup xs ∧ y = .int k ∧ xs ≠ [] ∧ 0 ≤ k ∧ k ≤ 1000 ∧ xs.length ≤ 1000 ∧ Q (.tup (List.replicate k.toNat xs).flatten) C
theorem RepL.rep {H : Hp} {ds : List D} {vs : List V} (r : RepL K H ds vs) : ∀ n : Nat, RepL K H (List.replicate n ds).flatten (List.replicate n vs).flatten
  | 0 => .nil
  | n + 1 => by
    rw [List.replicate_succ, List.replicate_succ, List.flatten_cons, List.flatten_cons]
    exact r.append (RepL.rep r n)
theorem tuple_mul1 (l : Addr) (items : Array Value) (n : Nat) (dd : Option Addr) (sl : Array (Option Value)) (x : Int) (u : Tok) (hx : x = 1) (c0 : (decide (x < -(2 ^ 63)) || decide (x ≥ 2 ^ 63)) = false) (c1 : (items.isEmpty || x == 1) = true) :
    Meets (Builtin.«tuple.__mul__» ⟨[.ref l, .int x u], []⟩) (fun _ R s => s.heap.get? l = some { cls := .type "tuple", dict := dd, data := .seq items n, slots := sl } ∧ R (.ok (.ret (Value.ref l))) s) :=
  .of_wp fun prog w A R s h => by
    obtain ⟨hp, g, d, tk, os⟩ := s
    obtain ⟨hl, h⟩ := h
    have f1 := AutoSeq1.idx_int
    wp_walk using AutoSeq1.wpAny_loadPart' hl
    repeat (first
      | (refine wpAny_ite_false (decide_eq_false (by rw [c0]; exact Bool.false_ne_true)) ?_; wp_walk using AutoSeq1.wpAny_loadPart' hl)
      | (refine wpAny_ite_true (decide_eq_true c1) ?_; wp_walk using AutoSeq1.wpAny_loadPart' hl))
    exact ⟨_, rfl, h⟩
theorem tuple_mul0 (l : Addr) (items : Array Value) (n : Nat) (dd : Option Addr) (sl : Array (Option Value)) (x : Int) (u : Tok) (hx : x = 0) (hi : items.isEmpty = false) :
    Meets (Builtin.«tuple.__mul__» ⟨[.ref l, .int x u], []⟩) (fun _ R s => s.heap.get? l = some { cls := .type "tuple", dict := dd, data := .seq items n, slots := sl } ∧
      R (.ok (.ret (Value.ref s.heap.objs.size))) { s with heap := s.heap.push { cls := Value.type "tuple", data := Data.seq #[] }, toks := s.toks }) :=
  .of_wp fun prog w A R s h => by
    obtain ⟨hp, g, d, tk, os⟩ := s
    obtain ⟨hl, h⟩ := h
    have f1 := AutoSeq1.idx_int
    have c0 : (decide (x < -(2 ^ 63)) || decide (x ≥ 2 ^ 63)) = false := by subst hx; decide
    have c1 : (items.isEmpty || x == 1) = false := by subst hx; rw [hi]; rfl
    have c2 : (decide (x ≤ 0) || items.isEmpty) = true := by subst hx; rfl
    wp_walk using AutoSeq1.wpAny_loadPart' hl
    repeat (first
      | (refine wpAny_ite_false (decide_eq_false (by rw [c0]; exact Bool.false_ne_true)) ?_; wp_walk using AutoSeq1.wpAny_loadPart' hl)
      | (refine wpAny_ite_false (decide_eq_false (by rw [c1]; exact Bool.false_ne_true)) ?_; wp_walk using AutoSeq1.wpAny_loadPart' hl)
      | (refine wpAny_ite_true (decide_eq_true c2) ?_; wp_walk using AutoSeq1.wpAny_loadPart' hl))
    exact ⟨_, rfl, h⟩
def rRepU (K : PySem.W.Frag) : R2 := fun x y H Q => ∃ l k xs, x = .ref l ∧ y = .int k ∧ SqT K H l xs ∧ xs ≠ [] ∧ k ≤ 1000 ∧ xs.length ≤ 1000 ∧ ((k = 1 ∧ Q (.ref l) H) ∨ ((2 ≤ k ∧ ∀ p, H p = none → Q (.ref p) (upd H p (.tup (List.replicate k.toNat xs).flatten))) ∨ (k = 0 ∧ ∀ p, H p = none → Q (.ref p) (upd H p (.tup [])))))
theorem op_repU : OpR X (binaryOp .Mult) (rRepU X.K) := by
  intro pins s σ H x y v u Q I rx ry h
  obtain ⟨l, k, xs, ex, ey, hT, hne, h2, hz, ⟨hk, q⟩ | ⟨hk, q⟩ | ⟨hk, q⟩⟩ := h
  · subst ex ey
    cases rx
    obtain ⟨t, rfl⟩ := ry
    obtain ⟨its, r, ⟨⟨cls, dd, data, sl⟩, ho, hc, n, hd⟩, hs⟩ := I.tuple hT
    simp only at hc hd
    subst hc hd
    have c0 : (decide (k < -(2 ^ 63)) || decide (k ≥ 2 ^ 63)) = false := by subst hk; decide
    have c1 : (its.toArray.isEmpty || k == 1) = true := by subst hk; simp
    refine wpAny_binaryOp_repeat_ref (T := "tuple") (U := "int") (by decide) ⟨_, ho, rfl⟩ (fun s' => typeIs_int s' k t) noFill_tuple_mul F.fills_int_mul F.slot_int_rmul repeat_tuple F.slot_int_index.lookup
      (call_meets F.slot_int_rmul (typeIs_int s k t) F.entry_int_rmul (F.args_int_rmul_2 _ _) (int_rmul_tuple k t l its.toArray n dd sl)
        ⟨ho, rfl, ⟨_, ho, rfl⟩, call_meets F.slot_tuple_mul ⟨_, ho, rfl⟩ F.entry_tuple_mul (F.args_tuple_mul_2 _ _) (tuple_mul1 l its.toArray n dd sl k t hk c0 c1) ⟨ho, ?_⟩⟩)
    exact ⟨.ref l, H, I, rfl, q⟩
  · exact op_repT pins s σ H x y v u Q I rx ry ⟨l, k, xs, ex, ey, hT, hne, hk, h2, hz, q⟩
  · subst ex ey
    cases rx
    obtain ⟨t, rfl⟩ := ry
    obtain ⟨its, r, ⟨⟨cls, dd, data, sl⟩, ho, hc, n, hd⟩, hs⟩ := I.tuple hT
    simp only at hc hd
    subst hc hd
    have hle : its.length = xs.length := r.length.symm
    have hi : its.toArray.isEmpty = false := by
      cases its with
      | nil => exact absurd (List.eq_nil_of_length_eq_zero hle.symm) hne
      | cons a b => rfl
    refine wpAny_binaryOp_repeat_ref (T := "tuple") (U := "int") (by decide) ⟨_, ho, rfl⟩ (fun s' => typeIs_int s' k t) noFill_tuple_mul F.fills_int_mul F.slot_int_rmul repeat_tuple F.slot_int_index.lookup
      (call_meets F.slot_int_rmul (typeIs_int s k t) F.entry_int_rmul (F.args_int_rmul_2 _ _) (int_rmul_tuple k t l its.toArray n dd sl)
        ⟨ho, rfl, ⟨_, ho, rfl⟩, call_meets F.slot_tuple_mul ⟨_, ho, rfl⟩ F.entry_tuple_mul (F.args_tuple_mul_2 _ _) (tuple_mul0 l its.toArray n dd sl k t hk hi) ⟨ho, ?_⟩⟩)
    refine ⟨.ref s.heap.objs.size, _, I.laid (t' := s.toks) (o := .tup []) (fun b ob q => Heap.get?_push_of_some _ q) (Nat.le_refl _) ?_, rfl, q _ (I.hok.fresh (Nat.le_refl _))⟩
    exact ⟨Nat.zero_le _, [], .nil, IsTup.new _ _⟩
theorem lk_mulT : Lk2 K cl (rRepU K) oMulT := fun H C d e v u Q Qc rd re R ⟨xs, k, h1, h2, h3, h4, h5, h6, q⟩ hq => by
  subst h1; subst h2
  cases re
  cases rd with
  | tup s r =>
    refine ⟨_, k, _, rfl, rfl, s, fun z => by subst z; cases r; exact h3 rfl, h5, by rw [← r.length]; exact h6, ?_⟩
    by_cases hk : k = 1
    · refine .inl ⟨hk, ?_⟩
      subst hk
      have e : (List.replicate (1 : Int).toNat xs).flatten = xs := by simp
      rw [e] at q
      exact hq.now q (.tup s r) R
    · by_cases h0 : k = 0
      · refine .inr (.inr ⟨h0, fun p hp => ?_⟩)
        subst h0
        exact hq.tup q (.nil) R hp
      · exact .inr (.inl ⟨by omega, fun p hp => hq.tup q (r.rep _) R hp⟩)
/-- int * int, tuple * int -/
def repS (z : Str) (n : Nat) : Str := ⟨(List.replicate n z.cps).foldl (· ++ ·) #[]⟩
def oMulA : O2 := fun x y C Q => match x, y with
  | .str z, .int k => 0 ≤ k ∧ k ≤ 1000 ∧ z.length ≤ 1000 ∧ Q (.str (repS z k.toNat)) C
  | .int i, .int j => CMul i j ∧ Q (.int (i * j)) C
  | .tup xs, .int k => xs ≠ [] ∧ 0 ≤ k ∧ k ≤ 1000 ∧ xs.length ≤ 1000 ∧ Q (.tup (List.replicate k.toNat xs).flatten) C
  | .ref a, .int k => ∃ xs, C a = some (.lst xs) ∧ -(2 ^ 63) ≤ k ∧ k < 2 ^ 63 ∧ xs.length * k.toNat ≤ sizeLine ∧ ∀ p, C p = none → Q (.ref p) (cup C p (.lst (List.replicate k.toNat xs).flatten))
  | _, _ => False
/-! ### extend by a tuple -/
def rExtendT (K : PySem.W.Frag) : V → List V → Hp → VK → Prop := fun x vs H Q => ∃ l b xs zs, x = .ref l ∧ vs = [.ref b] ∧ H l = some (.lst xs) ∧ SqT K H b zs ∧ xs.length + zs.length ≤ sizeLine ∧ Q .non (upd H l (.lst (xs ++ zs)))

theorem ext_tup (l : Addr) (items : Array Value) (n : Nat) (b : Addr) (items2 : Array Value) (n2 : Nat) (dd : Option Addr) (sl : Array (Option Value)) (hs0 : ¬(!items.isEmpty && Builtin.List.listTooLong (items.size + items2.size)) = true) (hs1 : items.size ≤ sizeLine) (hs2 : items.size + items2.size ≤ sizeLine + 1) :
    Meets (Builtin.«list.extend» ⟨[.ref l, .ref b], []⟩) (fun _ R s => s.heap.get? l = some { cls := .type "list", dict := none, data := .seq items n, slots := #[] } ∧ s.heap.get? b = some { cls := .type "tuple", dict := dd, data := .seq items2 n2, slots := sl } ∧ R (.ok (.ret Value.none)) { s with heap := s.heap.update l (Obj.mapSeq fun x => x ++ items2), toks := s.toks }) :=
  .of_wp fun prog w A R s h => by
    obtain ⟨hp, g, d, tk, os⟩ := s; obtain ⟨hl, hb, h⟩ := h; have f1 := AutoSeq1.idx_int; have f2 := AutoSeq1.sub_tuple_tuple; have f3 := AutoSeq1.sub_list_list; have f4 := AutoSeq1.sub_tuple_list; have f5 := AutoSeq1.sub_list_tuple;
    have hz' : (items ++ items2).size ≤ sizeLine + 1 := by rw [Array.size_append]; exact hs2
    wp_walk using (wpAny_updateSeq hl rfl (hz := hs1) (_hz' := hz')), AutoSeq1.wpAny_loadPart' hl, AutoSeq1.wpAny_loadPart' hb; exact ⟨_, rfl, h⟩
theorem mt_extendT : MtM X "list.extend" (rExtendT X.K) := by
  intro pins s σ H x vs v us Q I rx rv h
  obtain ⟨l, b, xs, zs, rfl, rfl, hH, hB, hz, q⟩ := h
  cases rx
  obtain ⟨u, rfl, ru⟩ := rv.one
  cases ru
  obtain ⟨z, its, n, r, hl, e⟩ := I.lstM hH
  obtain ⟨its2, r2, ⟨⟨cls, dd, data, sl⟩, ho, hc, n2, hd⟩, hs2⟩ := I.tuple hB
  simp only at hc hd
  subst hc hd
  have hle : its.length = xs.length := r.length.symm
  have hle2 : its2.length = zs.length := r2.length.symm
  have hsz : its.toArray.size + its2.toArray.size ≤ sizeLine := by rw [List.size_toArray, List.size_toArray]; omega
  have hlong : ¬ (!its.toArray.isEmpty && Builtin.List.listTooLong (its.toArray.size + its2.toArray.size)) = true := by
    rw [notLongL hsz, Bool.and_false]
    exact Bool.false_ne_true
  refine call_meets F.slot_list_extend ⟨_, e, rfl⟩ F.entry_list_extend (F.args_list_extend_2 _ _)
    (ext_tup l its.toArray n b its2.toArray n2 dd sl hlong (by rw [List.size_toArray]; omega) (by omega)) ⟨e, ho, ?_⟩
  refine ⟨.non, _, I.lset (its' := its ++ its2) hH e (by simp) (r.append r2) ?_, rfl, q⟩
  rw [List.length_append]
  omega
def oExtendA : OM := fun d ds C Q => ∃ p xs y ys, d = .ref p ∧ ds = [y] ∧ C p = some (.lst xs) ∧ (y = .tup ys ∨ ∃ b, y = .ref b ∧ C b = some (.lst ys)) ∧ xs.length + ys.length ≤ sizeLine ∧ Q .non (cup C p (.lst (xs ++ ys)))
theorem lk_extendA : LkM K cl (fun x vs H Q => rExtend x vs H Q ∨ rExtendT K x vs H Q) oExtendA := fun H C d v ds vs Q Qc r rs R ⟨p, xs, y, ys, h1, h2, h3, h4, h5, q⟩ hq => by
  rcases h4 with h4 | ⟨b, h4, h6⟩
  · right
    subst h1; subst h2; subst h4; cases r
    obtain ⟨u, rfl, ru⟩ := rs.one
    obtain ⟨ws, e1, r1⟩ := R p _ h3
    cases ru with
    | tup s r2 => exact ⟨p, _, ws, _, rfl, rfl, e1, s, by rw [← r1.length, ← r2.length]; exact h5, hq _ _ _ _ q .non (R.wlst h3 e1 (r1.append r2)) (Keep.write h3 _ _)⟩
  · left
    subst h4
    exact lk_extend H C d v ds vs Q Qc r rs R ⟨p, b, xs, ys, h1, h2, h3, h6, h5, q⟩ hq
/-! ### a, b, c = x, y, z -/
variable {H0 : Hp} {C0 : CH} {pos : Pos}
def sPar3 (i j l : Nat) (a : CTA) : CTS := fun D σ C => a σ C fun ds C1 => ∃ d e f, ds = [d, e, f] ∧ D.nx (((σ.set i (some d)).set j (some e)).set l (some f)) C1
theorem cps_par3 {i j l : Nat} {x y z : Str} {a b c : Expr} {cs : CTA} {px py pz pt : Pos} {kt k2 pt2} (hc : X.calm = true) (hN : X.N.Nodup) (hi : X.N[i]? = some x) (hj : X.N[j]? = some y) (hl : X.N[l]? = some z) (hij : i ≠ j) (hil : i ≠ l) (hjl : j ≠ l)
    (hx : X.env.scope.names.lookup x = some .local) (hy : X.env.scope.names.lookup y = some .local) (hz : X.env.scope.names.lookup z = some .local) (ha : CPA X cl H0 C0 [a, b, c] cs)
    (hw : swappedStores [.Tuple [.Name x px, .Name y py, .Name z pz] kt pt] (.Tuple [a, b, c] k2 pt2) X.env = pure (some [x, y, z]))
    (hs : swapsWithSole [.Tuple [.Name x px, .Name y py, .Name z pz] kt pt] (.Tuple [a, b, c] k2 pt2) pos.line X.env = pure false) :
    CPS X cl H0 C0 (.Assign [.Tuple [.Name x px, .Name y py, .Name z pz] kt pt] (.Tuple [a, b, c] k2 pt2) pos) (sPar3 i j l cs) :=
  (ps_par3 hc hN hi hj hl hij hil hjl hx hy hz ha hw hs).imp fun D σ H ⟨σc, C, Dc, S, h, hq⟩ => ⟨σc, C, _, S, h, fun ds C1 vs H1 ⟨d, e, f, h1, h2⟩ rs R1 k1 => by
    subst h1
    cases rs with
    | cons r1 t =>
      obtain ⟨u, w, rfl, r2, r3⟩ := t.two
      exact ⟨_, u, w, rfl, hq.nx _ _ _ _ h2 ((((S.s.keep S.r k1).set r1 i).set r2 j).set r3 l) R1 k1⟩⟩
end
end L3

namespace L3
open PySem L2 PySem.Spec PyProof.Rows
/-! dicts whose keys are tuples of any depth (to 8) -/
section
variable {X : Cx} {cl : ClsT} {H0 : Hp} {C0 : CH} {K : PySem.W.Frag} {H : Hp} {C : CH} {pins : List (Addr × Obj)} {σ : L2.St} {s : Shared}
mutual
theorem nested_of (I : Inv X pins σ H s) : ∀ {d : D} {v : V} {u : Value} {k : NestedKey}, Rep X.K H d v → RelV v u → keyT d = some k → NestedIs s.heap k u
  | .non, _, _, _, .non, r, e => by cases r; simp only [keyT, Option.some.injEq] at e; subst e; exact .none
  | .bl b, _, _, _, .bl _, r, e => by cases r; simp only [keyT, Option.some.injEq] at e; subst e; exact .bool rfl
  | .int b, _, _, _, .int _, r, e => by obtain ⟨t, rfl⟩ := r; simp only [keyT, Option.some.injEq] at e; subst e; exact .int _ _
  | .str b, _, _, _, .str _, r, e => by obtain ⟨t, rfl⟩ := r; simp only [keyT, Option.some.injEq] at e; subst e; exact .text _ _
  | .tup ds, _, _, _, .tup sq rr, r, e => by
    cases r
    simp only [keyT] at e
    cases q : keysT ds with
    | none => rw [q] at e; cases e
    | some ks =>
      rw [q] at e
      simp only [Option.some.injEq] at e
      subst e
      obtain ⟨its, rv, ⟨o, ho, hc, n, hd⟩, _⟩ := I.tuple sq
      exact .tup ho hc hd (by simpa using nesteds_of I rr rv q)
theorem nesteds_of (I : Inv X pins σ H s) : ∀ {ds : List D} {vs : List V} {us : List Value} {ks : List NestedKey}, RepL X.K H ds vs → Vals vs us → keysT ds = some ks → NestedAll s.heap ks us
  | [], _, _, _, .nil, .nil, e => by simp only [keysT, Option.some.injEq] at e; subst e; exact .nil
  | d :: ds, _, _, _, .cons r t, .cons rv rt, e => by
    simp only [keysT] at e
    cases q : keyT d with
    | none => rw [q] at e; cases e
    | some k =>
      cases q2 : keysT ds with
      | none => rw [q, q2] at e; cases e
      | some ks =>
        rw [q, q2] at e
        simp only [Option.some.injEq] at e
        subst e
        exact .cons (nested_of I r rv q) (nesteds_of I t rt q2)
end
/-- the tuple at b is the key k -/
def KeyAt (K : PySem.W.Frag) (H : Hp) (k : NestedKey) (b : Addr) : Prop := k.depth ≤ 8 ∧ ∃ t, keyT t = some k ∧ Rep K H t (.ref b)
theorem KeyAt.is (I : Inv X pins σ H s) {k : NestedKey} {b : Addr} (h : KeyAt X.K H k b) : (nestedKind X.prog X.w).is s.heap k b := by
  obtain ⟨h1, t, h2, h3⟩ := h
  exact ⟨nested_of I h3 rfl h2, h1⟩
theorem RepK.keys {ds : List (NestedKey × D)} {xs : List (NestedKey × Addr × Value)} (h : RepK K H ds xs) : ∀ p ∈ xs, KeyAt K H p.1 p.2.1 := by
  induction h with
  | nil => intro p hp; cases hp
  | cons e z t r q _ ih =>
    intro p hp
    rcases List.mem_cons.mp hp with rfl | hp
    · exact ⟨z, _, e, t⟩
    · exact ih p hp
def valT (kvs : List (NestedKey × D)) (k : NestedKey) : Option D := (kvs.find? fun kv => decide (kv.1 = k)).map (·.2)
def putT (kvs : List (NestedKey × D)) (k : NestedKey) (v : D) : List (NestedKey × D) := if (valT kvs k).isSome = true then kvs.map (fun kv => if kv.1 = k then (kv.1, v) else kv) else kvs ++ [(k, v)]
theorem RepK.val {ds : List (NestedKey × D)} {xs : List (NestedKey × Addr × Value)} (h : RepK K H ds xs) (k : NestedKey) : (∀ d, valT ds k = some d → ∃ b u v, atKey xs k = some (b, u) ∧ Rep K H d v ∧ RelV v u) ∧ (valT ds k = none → atKey xs k = none) := by
  unfold valT atKey
  induction h with
  | nil => exact ⟨fun d e => by simp at e, fun _ => rfl⟩
  | @cons k' t d' b v' u ds xs e z rt r q _ ih =>
    by_cases hk : k' = k
    · subst hk
      simp only [List.find?_cons, decide_true, Option.map_some]
      exact ⟨fun d e => ⟨b, u, v', rfl, by cases e; exact r, q⟩, fun e => nomatch e⟩
    · simp only [List.find?_cons, decide_eq_false hk]
      exact ih
theorem RepK.isSome {ds : List (NestedKey × D)} {xs : List (NestedKey × Addr × Value)} (h : RepK K H ds xs) (k : NestedKey) : (atKey xs k).isSome = (valT ds k).isSome := by
  cases e : valT ds k with
  | none => rw [(h.val k).2 e]; rfl
  | some d => obtain ⟨b, u, v, e1, _⟩ := (h.val k).1 d e; rw [e1]; rfl
theorem RepK.put {ds : List (NestedKey × D)} {xs : List (NestedKey × Addr × Value)} (h : RepK K H ds xs) {k : NestedKey} {t d : D} {b : Addr} {v : V} {u : Value} (e : keyT t = some k) (z : k.depth ≤ 8) (rt : Rep K H t (.ref b)) (r : Rep K H d v) (q : RelV v u) : RepK K H (putT ds k d) (storedH xs k b u) := by
  unfold putT storedH
  rw [h.isSome k]
  split
  · rename_i hc
    clear hc
    induction h with
    | nil => exact .nil
    | @cons k' t' d' b' v' u' ds xs e' z' rt' r' q' _ ih =>
      rw [List.map_cons, List.map_cons]
      unfold putAt
      by_cases hk : k' = k
      · rw [if_pos hk, if_pos hk]; exact .cons e' z' rt' r q ih
      · rw [if_neg hk, if_neg hk]; exact .cons e' z' rt' r' q' ih
  · rename_i hc
    clear hc
    induction h with
    | nil => exact .cons e z rt r q .nil
    | cons e' z' rt' r' q' _ ih => exact .cons e' z' rt' r' q' ih
/-- from the object to the library's word -/
theorem dtk_of (hP : cl.P = X.prog) (hw : cl.w = X.w) (I : Inv X pins σ H s) {a : Addr} {xs : List (NestedKey × Addr × Value)} (h : H a = some (DTO cl a xs)) (hk : ∀ p ∈ xs, KeyAt X.K H p.1 p.2.1) :
    xs.length ≤ sizeLine ∧ (a == sysModules) = false ∧ s.heap.DictOfH (nestedKind X.prog X.w) a xs := by
  obtain ⟨⟨h1, h2, o, es, ep, h3, h4, h5, h6, h7⟩, _, _⟩ := (show ObjOk X.prog X.w H s.heap a (DTO cl a xs) from I.hok a _ h)
  rw [hP, hw] at h6
  exact ⟨h1, h2, o, es, ep, h3, h4, h5, h6, fun p hp => (hk p hp).is I, h7⟩
theorem dtk_ok (hP : cl.P = X.prog) (hw : cl.w = X.w) {H' : Hp} {h' : Heap} {a : Addr} {xs : List (NestedKey × Addr × Value)} (h1 : xs.length ≤ sizeLine) (h2 : (a == sysModules) = false) (h : h'.DictOfH (nestedKind X.prog X.w) a xs) : ObjOk X.prog X.w H' h' a (DTO cl a xs) := by
  obtain ⟨o, es, ep, h3, h4, h5, h6, _, h7⟩ := h
  refine ⟨⟨h1, h2, o, es, ep, h3, h4, h5, by rw [hP, hw]; exact h6, h7⟩, ⟨o, h3⟩, fun ha hb hr hk => ?_⟩
  obtain ⟨g1, g2, o', es', ep', g3, g4⟩ := hr
  exact ⟨g1, g2, o', es', ep', hk _ g3, g4⟩
/-! ### reading, asking -/
def rGetK (cl : ClsT) (K : PySem.W.Frag) : R2 := fun x y H Q => ∃ a xs k b b' u v, x = .ref a ∧ y = .ref b ∧ H a = some (DTO cl a xs) ∧ KeyAt K H k b ∧ (∀ p ∈ xs, KeyAt K H p.1 p.2.1) ∧ atKey xs k = some (b', u) ∧ RelV v u ∧ Q v H
theorem ix_dtk (hP : cl.P = X.prog) (hw : cl.w = X.w) (hu : X.A.units + 10 < cLine) : IxR X (rGetK cl X.K) := by
  intro value slice pins s σ H x y v u Q I rx ry h hs
  obtain ⟨a, xs, k, b, b', u', v', rfl, rfl, h1, h2, h3, h4, h5, q⟩ := h
  cases rx; cases ry
  obtain ⟨_, _, hm⟩ := dtk_of hP hw I h1 h3
  refine PyProof.Rows.tail_any hm.typeIs PySem.F.slot_dict_getitem.lookup (wpAny_getItem_heap (knd := nestedKind X.prog X.w) (by show X.A.units + 1 + 8 < cLine; omega) (h2.is I) hm h4 ?_) hs
  exact ⟨v', H, I.tok _, h5, q⟩
def oGetK : O2 := fun x y C Q => ∃ a kvs k d, x = .ref a ∧ C a = some (.dtk kvs) ∧ (∃ ds, y = .tup ds) ∧ keyT y = some k ∧ k.depth ≤ 8 ∧ valT kvs k = some d ∧ Q d C
theorem lk_getK : Lk2 K cl (rGetK cl K) oGetK := fun H C d e v u Q Qc rd re R ⟨a, kvs, k, z, h1, h2, ⟨ds, h3⟩, h4, h5, h6, q⟩ hq => by
  subst h1; subst h3
  cases rd
  obtain ⟨xs, e1, r1⟩ := R a _ h2
  obtain ⟨b', u', v', e2, r2, r3⟩ := (r1.val k).1 z h6
  cases re with
  | tup sq rr => exact ⟨a, xs, k, _, b', u', v', rfl, rfl, e1, ⟨h5, _, h4, .tup sq rr⟩, r1.keys, e2, r3, hq.now q r2 R⟩
def rInK (cl : ClsT) (K : PySem.W.Frag) (f : Bool → Bool) : R2 := fun y x H Q => ∃ a xs k b, x = .ref a ∧ y = .ref b ∧ H a = some (DTO cl a xs) ∧ KeyAt K H k b ∧ (∀ p ∈ xs, KeyAt K H p.1 p.2.1) ∧ Q (.bl (f (atKey xs k).isSome)) H
theorem op_inK (hP : cl.P = X.prog) (hw : cl.w = X.w) (hu : X.A.units + 10 < cLine) : OpR X (compareOp .In) (rInK cl X.K id) := by
  intro pins s σ H y x v u Q I ry rx h
  obtain ⟨a, xs, k, b, rfl, rfl, h1, h2, h3, q⟩ := h
  cases rx; cases ry
  obtain ⟨_, hd, hm⟩ := dtk_of hP hw I h1 h3
  exact wpAny_in_heap (knd := nestedKind X.prog X.w) (by show X.A.units + 1 + 8 < cLine; omega) (h2.is I) hd hm ⟨.bl _, H, I.tok _, rfl, q⟩
theorem op_notInK (hP : cl.P = X.prog) (hw : cl.w = X.w) (hu : X.A.units + 10 < cLine) : OpR X (compareOp .NotIn) (rInK cl X.K not) := by
  intro pins s σ H y x v u Q I ry rx h
  obtain ⟨a, xs, k, b, rfl, rfl, h1, h2, h3, q⟩ := h
  cases rx; cases ry
  obtain ⟨_, hd, hm⟩ := dtk_of hP hw I h1 h3
  show wpAny _ _ (do return Value.bool (!(← contains (.ref a) (.ref b)))) _ _ s
  exact wpAny_bind (wpAny_contains_heap (knd := nestedKind X.prog X.w) (by show X.A.units + 1 + 8 < cLine; omega) (h2.is I) hd hm (wpAny_pure ⟨.bl _, H, I.tok _, rfl, q⟩))
def oInK (f : Bool → Bool) : O2 := fun y x C Q => ∃ a kvs k, x = .ref a ∧ C a = some (.dtk kvs) ∧ (∃ ds, y = .tup ds) ∧ keyT y = some k ∧ k.depth ≤ 8 ∧ Q (.bl (f (valT kvs k).isSome)) C
theorem lk_inK (f : Bool → Bool) : Lk2 K cl (rInK cl K f) (oInK f) := fun H C d e v u Q Qc rd re R ⟨a, kvs, k, h1, h2, ⟨ds, h3⟩, h4, h5, q⟩ hq => by
  subst h1; subst h3
  cases re
  obtain ⟨xs, e1, r1⟩ := R a _ h2
  cases rd with
  | tup sq rr => exact ⟨a, xs, k, _, rfl, rfl, e1, ⟨h5, _, h4, .tup sq rr⟩, r1.keys, hq.now (by rw [r1.isSome]; exact q) (.bl _) R⟩
/-! ### writing -/
def rSetK (cl : ClsT) (K : PySem.W.Frag) : TSet := fun x y z H Q => ∃ a xs k b, x = .ref a ∧ y = .ref b ∧ H a = some (DTO cl a xs) ∧ KeyAt K H k b ∧ (∀ p ∈ xs, KeyAt K H p.1 p.2.1) ∧ xs.length < sizeLine ∧ ∀ u, RelV z u → Q (upd H a (DTO cl a (storedH xs k b u)))
theorem storedH_len (xs : List (NestedKey × Addr × Value)) (k : NestedKey) (b : Addr) (u : Value) : (storedH xs k b u).length ≤ xs.length + 1 := by
  unfold storedH
  split
  · rw [List.length_map]; omega
  · rw [List.length_append]; simp
theorem set_dtk (hP : cl.P = X.prog) (hw : cl.w = X.w) (hu : X.A.units + 10 < cLine) : PSet X (rSetK cl X.K) := by
  intro pins s σ H o i v ov iv u Q I ro ri rv h
  obtain ⟨a, xs, k, b, rfl, rfl, h1, h2, h3, h4, q⟩ := h
  cases ro; cases ri
  obtain ⟨hl, hd, hm⟩ := dtk_of hP hw I h1 h3
  refine wpAny_setItem_heap (knd := nestedKind X.prog X.w) (hsz := hl) (by show X.A.units + 1 + 8 < cLine; omega) (h2.is I) hm fun h' hm' hs => ⟨_, ?_, q u rv⟩
  have he : ∃ ob, h'.get? a = some ob := let ⟨ob, _, _, hq, _⟩ := hm'; ⟨ob, hq⟩
  exact d_write I (by rw [h1]; exact True.intro) hs he (dtk_ok hP hw (by have := storedH_len xs k b u; omega) hd hm')
def oSetK : O3 := fun x y z C Q => ∃ p kvs k, x = .ref p ∧ C p = some (.dtk kvs) ∧ (∃ ds, y = .tup ds) ∧ keyT y = some k ∧ k.depth ≤ 8 ∧ kvs.length < sizeLine ∧ Q (cup C p (.dtk (putT kvs k z)))
theorem lk_setK : LkSet K cl (rSetK cl K) oSetK := fun H C d e z v u w Q Qc rd re rz R ⟨p, kvs, k, h1, h2, ⟨ds, h3⟩, h4, h5, h6, q⟩ hq => by
  subst h1; subst h3
  cases rd
  obtain ⟨xs, e1, r1⟩ := R p _ h2
  cases re with
  | tup sq rr =>
    refine ⟨p, xs, k, _, rfl, rfl, e1, ⟨h5, _, h4, .tup sq rr⟩, r1.keys, by rw [← r1.length]; exact h6, fun u' ru => ?_⟩
    refine hq _ _ q (R.write h2 e1 (fun xs h => by rcases h with h | ⟨z, h⟩ <;> (rw [e1] at h; cases h)) ⟨_, upd_same, ?_⟩) (Keep.write h2 _ _)
    exact (r1.put h4 h5 (.tup sq rr) rz ru).keep R (Keep.write h2 _ (.dtk (putT kvs k z)))
/-! ### displays: {}, {k: v} -/
theorem dtk_fresh (hP : cl.P = X.prog) (hw : cl.w = X.w) {H : Hp} (h : Heap) (hb : sysModules < h.objs.size) : ObjOk X.prog X.w H (h.push { cls := .type "dict", data := .dict #[] }) h.objs.size (DTO cl h.objs.size []) :=
  dtk_ok hP hw (Nat.zero_le _) (beq_eq_false_iff_ne.mpr (Ne.symm (Nat.ne_of_lt hb))) (Heap.DictOfH.new h)
def cDtk0 : CTE := fun _ C Q => ∀ p, C p = none → Q (.ref p) (cup C p (.dtk []))
theorem cpe_dtk0 (hP : cl.P = X.prog) (hw : cl.w = X.w) {pos : Pos} : CPE X cl H0 C0 (.Dict [] [] pos) cDtk0 := ⟨fun pins s σ H Q I ⟨σc, C, Qc, S, h, hq⟩ => by
  have hn := I.hok.fresh (Nat.le_refl s.heap.objs.size)
  refine wpAny_Dict_empty ⟨.ref s.heap.objs.size, _, I.laid (t' := s.toks) (fun _ _ q => Heap.get?_push_of_some _ q) (Nat.le_refl _) (dtk_fresh (cl := cl) hP hw s.heap I.big), rfl, ?_⟩
  exact hq _ _ _ _ (h _ (free_of S.r hn)) (.ref _) (S.r.new hn _ _ ⟨[], upd_same, .nil⟩) (Keep.new hn S.r _ _)⟩
def cDtk1 (a b : CTE) : CTE := fun σ C Q => a σ C fun x C1 => b σ C1 fun y C2 => ∃ k, (∃ ds, x = .tup ds) ∧ keyT x = some k ∧ k.depth ≤ 8 ∧ ∀ p, C2 p = none → Q (.ref p) (cup C2 p (.dtk [(k, y)]))
theorem cpe_dtk1 (hP : cl.P = X.prog) (hw : cl.w = X.w) (hu : X.A.units + 10 < cLine) {a b : Expr} {ca cb : CTE} {pos : Pos} (ha : CPE X cl H0 C0 a ca) (hb : CPE X cl H0 C0 b cb) : CPE X cl H0 C0 (.Dict [some a] [b] pos) (cDtk1 ca cb) := ⟨fun pins s σ H Q I ⟨σc, C, Qc, S, h, hq⟩ => by
  have hn := I.hok.fresh (Nat.le_refl s.heap.objs.size)
  have hC : C s.heap.objs.size = none := free_of S.r hn
  have I1 := I.laid (a := s.heap.objs.size) (o := DTO cl s.heap.objs.size []) (h' := s.heap.push { cls := .type "dict", data := .dict #[] }) (t' := s.toks) (fun _ _ q => Heap.get?_push_of_some _ q) (Nat.le_refl _) (dtk_fresh (cl := cl) hP hw s.heap I.big)
  have R1 := S.r.newH hn (DTO cl s.heap.objs.size [])
  have k1 := keep_newH hn (DTO cl s.heap.objs.size []) S.r
  have hdd := dictDisplay_pairs (pairTrees [some a] [b] X.env pos) (by simp [pairTrees]) (by simp [pairTrees])
  rw [arm_eval_Dict, zip_pairTrees [some a] [b] X.env pos rfl rfl, hdd]
  refine wpAny_bind (wpAny_standAt (wpAny_bind (wpAny_subDictH (knd := nestedKind X.prog X.w) (Q := fun d s' => wpAny (model X.prog X.w) X.A (pure (Value.ref d)) (EP X pins σ Q) X.xe s') (by show X.A.units + 8 < cLine; omega) (by simp [pairTrees]) ?_)))
  let H' := upd H s.heap.objs.size (DTO cl s.heap.objs.size [])
  refine pairTrees_cons_walk (thn (ha.run pins _ σ _ (fun xv H1 => ∃ x C1, Rep X.K H1 x xv ∧ Rel X.K cl H1 C1 ∧ Keep H' C H1 C1 ∧ cb σc C1 fun y C2 => ∃ k, (∃ ds, x = .tup ds) ∧ keyT x = some k ∧ k.depth ≤ 8 ∧ ∀ p, C2 p = none → Qc (.ref p) (cup C2 p (.dtk [(k, y)]))) I1
    ⟨σc, C, _, S.step k1 R1, h, fun x C1 xv H1 h1 rx R2 k2 => ⟨x, C1, rx, R2, k2, h1⟩⟩) fun u s1 ⟨xv, H1, I2, r1, x, C1, rx, R2, k2, h1⟩ =>
    thn (hb.run pins s1 σ H1 (fun yv H2 => ∃ y C2, Rep X.K H2 y yv ∧ Rel X.K cl H2 C2 ∧ Keep H1 C1 H2 C2 ∧ ∃ k, (∃ ds, x = .tup ds) ∧ keyT x = some k ∧ k.depth ≤ 8 ∧ ∀ p, C2 p = none → Qc (.ref p) (cup C2 p (.dtk [(k, y)]))) I2
    ⟨σc, C1, _, (S.step k1 R1).step k2 R2, h1, fun y C2 yv H2 h2 ry R3 k3 => ⟨y, C2, ry, R3, k3, h2⟩⟩) fun u2 s2 ⟨yv, H2, I3, r2, y, C2, ry, R3, k3, h2⟩ => pairTrees_nil_walk ?_)
  · obtain ⟨k, ⟨ds, e1⟩, e2, e3, e4⟩ := h2
    subst e1
    have kk := k2.trans k3
    obtain ⟨hp3, hC3⟩ := kk _ _ upd_same hC
    have rx3 := rx.keep R2 k3
    cases rx3 with
    | @tup ka _ _ sq rr =>
      cases r1
      obtain ⟨_, hd, hm⟩ := dtk_of hP hw I3 hp3 (fun p hp => nomatch hp)
      have kat : KeyAt X.K H2 k ka := ⟨e3, _, e2, .tup sq rr⟩
      refine ⟨[(k, ka, u2)], ⟨rfl, rfl, kat.is I3, trivial⟩, hm, fun h' tk hm' hs => wpAny_pure ?_⟩
      have he : ∃ ob, h'.get? s.heap.objs.size = some ob := let ⟨ob, _, _, hq, _⟩ := hm'; ⟨ob, hq⟩
      refine ⟨.ref s.heap.objs.size, _, d_write (t' := tk) I3 (by rw [hp3]; exact True.intro) hs he (dtk_ok hP hw (xs := [(k, ka, u2)]) (by simp only [List.length_cons, List.length_nil]; decide) hd hm'), rfl, ?_⟩
      -- the clean heap: the dict is new
      have R4 : Rel X.K cl H2 (cup C2 s.heap.objs.size (.dtk [])) := fun b o hb => by
        by_cases hbp : b = s.heap.objs.size
        · subst hbp; rw [cup_same] at hb; cases hb; exact ⟨[], hp3, .nil⟩
        · rw [cup_ne hbp] at hb; exact R3 b o hb
      have dr : RepK X.K H2 [(k, y)] [(k, ka, u2)] := .cons e2 e3 (.tup sq rr) ry r2 .nil
      have kw : Keep H2 (cup C2 s.heap.objs.size (.dtk [])) (upd H2 s.heap.objs.size (DTO cl s.heap.objs.size [(k, ka, u2)])) (cup (cup C2 s.heap.objs.size (.dtk [])) s.heap.objs.size (.dtk [(k, y)])) := Keep.write cup_same _ _
      have R5 := R4.write (u' := .dtk [(k, y)]) (o' := DTO cl s.heap.objs.size [(k, ka, u2)]) cup_same hp3 (fun xs h => by rcases h with h | ⟨z, h⟩ <;> (rw [hp3] at h; cases h)) ⟨_, upd_same, dr.keep R4 kw⟩
      rw [cup_cup] at R5
      refine hq _ _ _ _ (e4 _ hC3) (.ref _) R5 fun b o hb hn => ?_
      obtain ⟨z1, z2⟩ := (k1.trans kk) b o hb hn
      have nb : b ≠ s.heap.objs.size := ne_of_none hb (I.hok.fresh (Nat.le_refl s.heap.objs.size))
      exact ⟨by rw [upd_ne nb]; exact z1, by rw [cup_ne nb]; exact z2⟩⟩
end
end L3

namespace L3
open PySem L2 PySem.Spec PyProof.Rows
/-! ### xs[::-1] of tuples and lists -/
theorem back_adjust (n : Nat) : Builtin.Slice.sliceAdjust none none (-1) (n : Int) = ((n : Int) - 1, -1) := rfl
theorem back_places (n : Nat) : Builtin.Slice.slicePlaces ((n : Int) - 1) (-1) (-1) = n := by
  unfold Builtin.Slice.slicePlaces
  rw [if_neg (by decide)]
  by_cases h : n = 0
  · subst h; rfl
  · rw [if_pos (by omega)]
    have e : ((n : Int) - 1 - -1 - 1) / - -1 = (n : Int) - 1 := by
      rw [show (- -1 : Int) = 1 by decide, Int.ediv_one]; omega
    rw [e]
    omega
theorem back_pick (xs : Array Value) : ((List.range xs.size).filterMap fun (m : Nat) => xs[((xs.size : Int) - 1 + (m : Int) * -1).toNat]?).toArray = xs.toList.reverse.toArray := by
  congr 1
  apply List.ext_getElem?
  intro i
  have e : ∀ m, m < xs.size → xs[((xs.size : Int) - 1 + (m : Int) * -1).toNat]? = some (xs.toList.reverse[m]?.getD .none) := by
    intro m hm
    have h1 : ((xs.size : Int) - 1 + (m : Int) * -1).toNat = xs.size - 1 - m := by omega
    rw [h1, List.getElem?_reverse (by simpa using hm)]
    simp only [Array.length_toList, Array.getElem?_toList]
    rw [Array.getElem?_eq_getElem (by omega)]
    rfl
  have e2 : (List.range xs.size).filterMap (fun (m : Nat) => xs[((xs.size : Int) - 1 + (m : Int) * -1).toNat]?) = (List.range xs.size).map (fun m => xs.toList.reverse[m]?.getD .none) := by
    have go : ∀ (l : List Nat), (∀ m ∈ l, m < xs.size) → l.filterMap (fun (m : Nat) => xs[((xs.size : Int) - 1 + (m : Int) * -1).toNat]?) = l.map (fun m => xs.toList.reverse[m]?.getD .none) := by
      intro l
      induction l with
      | nil => intro _; rfl
      | cons m l ih =>
        intro h
        rw [List.filterMap_cons, e m (h m List.mem_cons_self), List.map_cons, ih fun m' hm => h m' (List.mem_cons_of_mem _ hm)]
    exact go _ fun m hm => List.mem_range.mp hm
  rw [e2, List.getElem?_map]
  by_cases hi : i < xs.size
  · rw [List.getElem?_range hi]
    show some (xs.toList.reverse[i]?.getD .none) = _
    rw [List.getElem?_eq_getElem (by simpa using hi)]
    rfl
  · rw [List.getElem?_eq_none (by simpa using hi), List.getElem?_eq_none (by simpa using hi)]
    rfl
section
variable {prog : Program} {w : World} {A : Around} {E : Value → Shared → Prop} {s : Shared}
theorem getItem_tuple_back {t sl : Addr} {items : Array Value} {k : Tok} {Q : Value → Shared → Prop} (ht : IsTup s.heap t items) (hs : s.heap.IsSliceOf sl .none .none (.int (-1) k))
    (h : Q (.ref s.heap.objs.size) { s with heap := s.heap.push { cls := .type "tuple", data := .seq items.toList.reverse.toArray } }) (hsz : items.size ≤ sizeLine) : wpAny (model prog w) A (getItem (.ref t) (.ref sl)) Q E s := by
  have ok : sizeOk (.seq items.toList.reverse.toArray) := by
    show items.toList.reverse.toArray.size ≤ sizeLine
    rw [List.size_toArray, List.length_reverse, Array.length_toList]
    exact hsz
  obtain ⟨os, hos, hcs, hds⟩ := id hs
  have tyS : s.TypeIs (.ref sl) "slice" := ⟨os, hos, hcs⟩
  unfold getItem
  try with_reducible refine wpAny_holding ?_
  first | refine wpAny_bind (wpAny_pure ?_) | skip
  refine wpAny_bind (wpAny_sequenceKey ht.typeIs (by decide) (wpAny_bind (wpAny_callSpecial?_slot (name := Str.ofString "__getitem__") ht.typeIs PyProof.Rows.slot_tuple_getitem (wpAny_call_entry PyProof.Rows.slot_tuple_getitem ht.typeIs entry_tuple_getitem ?_ (args_tuple_getitem _ _)))))
  show wpAny _ _ (Builtin.Tuple.tupleItemsOf (.ref t) >>= _) _ _ s
  refine wpAny_bind (tupleItemsOf_ ht (wpAny_bind (wpAny_typeOf tyS ?_)))
  rw [if_pos (by decide)]
  have app : ∀ {B : Around} {Q' : Int × Int × Nat → Shared → Prop}, Q' ((items.size : Int) - 1, -1, items.size) s → wpAny (model prog w) B (Builtin.Slice.sliceApplied (.ref sl) (pure (items.size : Int))) Q' E s := by
    intro B Q' q
    unfold Builtin.Slice.sliceApplied Builtin.Slice.sliceFields
    refine wpAny_bind (wpAny_bind (wpAny_field hos hds (x := .none) rfl (wpAny_bind (wpAny_field hos hds (x := .none) rfl (wpAny_bind (wpAny_field hos hds (x := .int (-1) k) rfl (wpAny_pure ?_)))))))
    refine wpAny_bind (HT.slicePart_ (.int (-1) k) ?_)
    show wpAny _ _ (if ((-1 : Int) == 0) = true then _ else _) _ _ s
    rw [if_neg (by decide)]
    refine wpAny_bind (HT.slicePart_ .none (wpAny_bind (HT.slicePart_ .none (wpAny_bind (wpAny_pure ?_)))))
    show wpAny _ _ (match Builtin.Slice.sliceAdjust none none (-1) (items.size : Int) with | (lo, hi) => pure (lo, (-1 : Int), Builtin.Slice.slicePlaces lo hi (-1))) _ _ s
    rw [back_adjust]
    show wpAny _ _ (pure ((items.size : Int) - 1, (-1 : Int), Builtin.Slice.slicePlaces ((items.size : Int) - 1) (-1) (-1))) _ _ s
    rw [back_places]
    exact wpAny_pure q
  refine wpAny_bind (app ?_)
  have hno : ¬ (((items.size : Int) - 1 == 0 && (-1 : Int) == 1 && items.size == items.size) = true) := by simp
  show wpAny _ _ (if ((items.size : Int) - 1 == 0 && (-1 : Int) == 1 && items.size == items.size) = true then _ else _) _ _ s
  rw [if_neg hno, back_pick]
  first
    | exact wpAny_bind (m := Builtin.Tuple.tupleExact _) (wpAny_newObj_type (wpAny_pure ⟨_, rfl, wpAny_pure h⟩) ok)
    | exact wpAny_bind (m := Builtin.Tuple.tupleExact _) (wpAny_newObj_type (wpAny_bind (wpAny_pure (wpAny_pure ⟨_, rfl, wpAny_pure h⟩))) ok)
    | exact wpAny_bind (wpAny_bind (m := Builtin.Tuple.tupleExact _) (wpAny_newObj_type (wpAny_pure (wpAny_pure ⟨_, rfl, wpAny_pure h⟩)) ok))
    | exact wpAny_bind (wpAny_bind (m := Builtin.Tuple.tupleExact _) (wpAny_newObj_type (wpAny_pure ⟨_, rfl, wpAny_pure h⟩) ok))
end
section
variable {X : Cx} {cl : ClsT} {H0 : Hp} {C0 : CH} {e : Expr} {ca : CTE}
def tRevA (K : PySem.W.Frag) (te : TE) : TE := fun σ H Q => te σ H fun x H1 => ∃ a xs, x = .ref a ∧ ((SqL K H1 a xs ∧ ∀ p, H1 p = none → Q (.ref p) (upd H1 p (.lst xs.reverse))) ∨ (SqT K H1 a xs ∧ ∀ p, H1 p = none → Q (.ref p) (upd H1 p (.tup xs.reverse))))
theorem pe_revA {te : TE} {k : Nat} {p1 p2 p3 pos : Pos} (he : PE X e te) : PE X (.Subscript e (.Slice none none (some (.UnaryOp .USub (.Constant (.int 1) k p1) p2)) p3) pos) (tRevA X.K te) := ⟨fun pins s σ H Q I h => by
  refine Subscript_ (thn (he.run pins s σ H _ I h) fun v s1 ⟨x, H1, I1, r1, a, xs, ex, q⟩ => ?_)
  subst ex
  cases r1
  have step : PO X (some (.UnaryOp .USub (.Constant (.int 1) k p1) p2)) (tPart (tUn (rU fun i => .int (-i)) (tC (.int 1)))) := po_some (pe_un un_neg pe_int)
  refine wpAny_Slice (thn (po_none.run pins s1 σ H1 (fun o H2 => o = none ∧ H2 = H1) I1 ⟨rfl, rfl⟩) fun vl s2 ⟨l, H2, I2, pl, el, e2⟩ => ?_)
  subst el e2
  refine thn (po_none.run pins s2 σ H2 (fun o H3 => o = none ∧ H3 = H2) I2 ⟨rfl, rfl⟩) fun vu s3 ⟨u, H3, I3, pu, eu, e3⟩ => ?_
  subst eu e3
  refine thn (step.run pins s3 σ H3 (fun o H4 => o = some (-1) ∧ H4 = H3) I3 ⟨1, rfl, -1, rfl, rfl, rfl⟩) fun vs s4 ⟨o, H4, I4, ps, eo, e4⟩ => ?_
  subst eo e4
  cases pl
  cases pu
  cases ps with
  | int _ t =>
  have I5 : Inv X pins σ H4 { s4 with heap := s4.heap.push { cls := .type "slice", data := .fields #[.none, .none, .int (-1) t] } } := I4.kept (t' := s4.toks) fun b ob q => Heap.get?_push_of_some _ q
  show wpAny (model X.prog X.w) X.A (subscriptTail e (.Slice none none (some (.UnaryOp .USub (.Constant (.int 1) k p1) p2)) p3) (.ref a) (.ref s4.heap.objs.size)) (EP X pins σ Q) X.xe { s4 with heap := s4.heap.push { cls := .type "slice", data := .fields #[.none, .none, .int (-1) t] } }
  rcases q with ⟨hx, q⟩ | ⟨hx, q⟩
  · obtain ⟨its, r, pl, hz⟩ := I5.list hx
    refine tail_any (ops := [.ref a, .ref s4.heap.objs.size]) pl.isList.typeIs (PySem.slot_list_getitem.lookup) ?_ (by with_unfolding_all rfl)
    refine wpAny_getItem_list_slice pl.isList (Heap.IsSliceOf.new _ .none .none (.int (-1) t)) .none .none (.int (-1) t) (by decide) ?_ (by rw [List.size_toArray, ← r.length]; exact hz)
    rw [PySem.W.krv_pick]
    refine ⟨.ref _, _, I5.laid (t' := s4.toks) (o := .lst xs.reverse) (fun b ob q => Heap.get?_push_of_some _ q) (Nat.le_refl _) ?_, rfl, q _ (I5.hok.fresh (Nat.le_refl _))⟩
    exact ⟨by rw [List.length_reverse]; exact hz, _, 0, r.reverse, Heap.get?_push_size _ rfl⟩
  · obtain ⟨its, r, pt, hz⟩ := I5.tuple hx
    refine tail_any (ops := [.ref a, .ref s4.heap.objs.size]) pt.typeIs PyProof.Rows.slot_tuple_getitem.lookup ?_ (by with_unfolding_all rfl)
    refine getItem_tuple_back pt (Heap.IsSliceOf.new _ .none .none (.int (-1) t)) ?_ (by rw [List.size_toArray, ← r.length]; exact hz)
    refine ⟨.ref _, _, I5.laid (t' := s4.toks) (o := .tup xs.reverse) (fun b ob q => Heap.get?_push_of_some _ q) (Nat.le_refl _) ?_, rfl, q _ (I5.hok.fresh (Nat.le_refl _))⟩
    exact ⟨by rw [List.length_reverse]; exact hz, its.reverse, r.reverse, _, Heap.get?_push_size _ rfl, rfl, _, rfl⟩⟩
/-- xs[::-1] -/
def cRev (a : CTE) : CTE := fun σ C Q => a σ C fun d C1 => match d with
  | .tup ds => Q (.tup ds.reverse) C1
  | .ref p => ∃ ds, LsC C1 p ds ∧ ∀ l, C1 l = none → Q (.ref l) (cup C1 l (.lst ds.reverse))
  | _ => False
theorem cpe_rev {k : Nat} {p1 p2 p3 pos : Pos} (ha : CPE X cl H0 C0 e ca) : CPE X cl H0 C0 (.Subscript e (.Slice none none (some (.UnaryOp .USub (.Constant (.int 1) k p1) p2)) p3) pos) (cRev ca) :=
  (pe_revA ha).imp fun σ H Q ⟨σc, C, Qc, S, h, hq⟩ => ⟨σc, C, _, S, h, fun d C1 v H1 h1 rv R1 k1 => by
    have hq1 := hq.from_ k1
    cases d with
    | tup ds =>
      cases rv with
      | tup sq rr => exact ⟨_, _, rfl, .inr ⟨sq, fun p hp => hq1.tup h1 rr.reverse R1 hp⟩⟩
    | ref p =>
      cases rv
      obtain ⟨ds, hl, q⟩ := h1
      obtain ⟨vs, sq, rr⟩ := R1.ls hl
      exact ⟨p, vs, rfl, .inl ⟨sq, fun p' hp => hq1.lst rr.reverse R1 hp (q p' (free_of R1 hp))⟩⟩
    | _ => exact h1.elim⟩
/-- d[k] of a dict with tuple keys -/
theorem cpe_ixK {a b : Expr} {ca cb : CTE} {pos : Pos} (hP : cl.P = X.prog) (hw : cl.w = X.w) (hu : X.A.units + 10 < cLine) (ha : CPE X cl H0 C0 a ca) (hb : CPE X cl H0 C0 b cb) (hs : notSlice b = true) : CPE X cl H0 C0 (.Subscript a b pos) (cBin oGetK ca cb) :=
  (pe_ix (ix_dtk hP hw hu) ha hb (plainIx_of hs)).imp (tOp_of (ta := tE X.K cl H0 C0 ca) (tb := tE X.K cl H0 C0 cb) lk_getK)
theorem cpe_nev : CPE X cl H0 C0 e fun _ _ _ => False := ⟨fun _ _ _ _ _ _ ⟨_, _, _, _, h, _⟩ => h.elim⟩
/-! ### repr of data -/
theorem Dp.noDict {K : PySem.W.Frag} {H : Hp} : True := trivial
mutual
theorem snap_noDict {C : CH} : ∀ {d : D} {p : PyData}, Snap C d p → p.hasDict = false
  | _, _, .non => rfl
  | _, _, .bl _ => rfl
  | _, _, .int _ => rfl
  | _, _, .str _ => rfl
  | _, _, .tup t => by simp only [PyData.hasDict]; exact snaps_noDict t
  | _, _, .rls t => by simp only [PyData.hasDict]; exact snaps_noDict t
  | _, _, .lst _ t => by simp only [PyData.hasDict]; exact snaps_noDict t
theorem snaps_noDict {C : CH} : ∀ {d : List D} {p : List PyData}, SnapL C d p → PyData.hasDictAll p = false
  | _, _, .nil => rfl
  | _, _, .cons a b => by simp only [PyData.hasDictAll, snap_noDict a, snaps_noDict b]; rfl
end
def rRepr (K : PySem.W.Frag) : List V → Hp → VK → Prop := fun xs H Q => ∃ x p, xs = [x] ∧ Dp K H x p ∧ p.hasDict = false ∧ p.showable = true ∧ p.shown.length ≤ sizeLine ∧ p.depth ≤ 350 ∧ Q (.str p.shown) H
theorem call_reprA (hg : X.A.guards = some []) (hu : X.A.units + 352 < cLine) : CallR X (.builtin "repr") (rRepr X.K) := by
  intro pins s σ H xs us Q I r h
  obtain ⟨x, p, rfl, hd, hn, hs, hl, hp, q⟩ := h
  cases r with
  | cons r0 t =>
  cases t
  cases hd with
  | non =>
    cases r0
    simp only [PyData.shown] at q
    exact PySem.P.repr_of_none ⟨.str _, H, I.tok _, ⟨_, rfl⟩, q⟩
  | bl b =>
    cases r0
    simp only [PyData.shown] at q
    exact PySem.P.repr_of_bool ⟨.str _, H, I.tok _, ⟨_, rfl⟩, q⟩
  | int i =>
    obtain ⟨t, rfl⟩ := r0
    simp only [PyData.shown] at q
    exact PySem.P.repr_of_int (by simpa [PyData.showable] using hs) ⟨.str _, H, I.tok _, ⟨_, rfl⟩, q⟩
  | str z =>
    obtain ⟨t, rfl⟩ := r0
    simp only [PyData.shown] at q hl
    exact PySem.P.repr_of_str ⟨.str _, H, I.tok _, ⟨_, rfl⟩, q⟩ hl
  | lst sq t =>
    cases r0
    obtain ⟨as, rd⟩ := Dp.reads I _ _ _ (.lst sq t) rfl
    exact repr_of_reads' rd hs (fun z => by rw [hn] at z; cases z) hg (by omega) (fun _ _ e => e) (fun h' u tk hk => ⟨.str _, H, I.kept hk, ⟨_, rfl⟩, q⟩) hl
  | tup sq t =>
    cases r0
    obtain ⟨as, rd⟩ := Dp.reads I _ _ _ (.tup sq t) rfl
    exact repr_of_reads' rd hs (fun z => by rw [hn] at z; cases z) hg (by omega) (fun _ _ e => e) (fun h' u tk hk => ⟨.str _, H, I.kept hk, ⟨_, rfl⟩, q⟩) hl
def oRepr : OL := fun xs C Q => ∃ x p, xs = [x] ∧ Snap C x p ∧ p.showable = true ∧ p.shown.length ≤ sizeLine ∧ p.depth ≤ 350 ∧ Q (.str p.shown) C
theorem lk_repr {K : PySem.W.Frag} : LkL K cl (rRepr K) oRepr := fun H C ds vs Q Qc rs R ⟨x, p, h1, h2, h3, h4, h5, q⟩ hq => by
  subst h1
  obtain ⟨v, rfl, r⟩ := rs.one
  exact ⟨v, p, rfl, h2.dp R r, snap_noDict h2, h3, h4, h5, hq.now q (.str _) R⟩
end
end L3

/-! == and != by an own __eq__ -/
namespace L3N
open PySem PySem.Spec PyProof.Rows PySem.SeqAt
section
variable {M : Model} {prog : Program} {w : World} {A : Around} {E : Value → Shared → Prop} {s : Shared} {K : PySem.W.Frag} {x C f : Addr} {ox : Obj} {od : Option Obj} {b : Value}
theorem entry_neO {Q : Fin → Shared → Prop} (hu : A.units < cLine) (X : K.In s.heap) (I : PySem.W.InstAt s.heap x ox C od) (hs : PySem.W.findIn K (.ref C) "__eq__" = some (some (.ref f))) (hf : PySem.W.isFn K (.ref f) = true)
    (h : wpAny (model prog w) A (call (.ref f) [.ref x, b]) (fun v s' => ∃ t, v = .bool t ∧ Q (.done (.ret (.bool (!t)))) s') E s) : wpAny (model prog w) A (Builtin.«object.__ne__» ⟨[.ref x, b], []⟩) Q E s := by
  unfold Builtin.«object.__ne__»
  repeat (first
    | with_reducible refine wpAny_cRoomFor hu ?_
    | (refine wpAny_bind (m := callSpecialIfBound? (.ref x) (Str.ofString "__eq__") [b])
        (PySem.W.ifBound_K X I hs hf (wpAny_mono h (fun r s' hr => by
          obtain ⟨t, rfl, hq⟩ := hr
          repeat (first | exact hq | exact wpAny_pure hq | exact wpAny_truthy_bool hq | (refine wpAny_bind (m := truthy (.bool _)) (wpAny_truthy_bool ?_)) | wp_step)) fun _ _ e => e)))
    | wp_step)
theorem call_neO {Q : Value → Shared → Prop} (hu : A.units + 1 < cLine) (X : K.In s.heap) (I : PySem.W.InstAt s.heap x ox C od) (hm : PySem.W.mroIn K C (.type "object") = some true) (hs : PySem.W.findIn K (.ref C) "__eq__" = some (some (.ref f))) (hf : PySem.W.isFn K (.ref f) = true)
    (h : wpAny (model prog w) A.in1 (call (.ref f) [.ref x, b]) (fun v s' => ∃ t, v = .bool t ∧ Q (.bool (!t)) s') E s) : wpAny (model prog w) A (call (.builtin "object.__ne__") [.ref x, b]) Q E s :=
  wpAny_call (codeAny_call_builtin F.cmp_object.ne.plain F.cmpEntry_ne (PySem.W.check_slot F.cmpKind_ne F.cmpSplit_ne (I.type.andThen (PySem.W.looks_mroIn X hm)) (F.cmpArgs_ne _ _) (entry_neO (A := A.in1) hu X I hs hf (wpAny_mono h (fun v s' hv => hv) fun _ _ e => e))))
theorem ifBound_objNe {args : List Value} {Q : Option Value → Shared → Prop} (X : K.In s.heap) (I : PySem.W.InstAt s.heap x ox C od) (hs : PySem.W.findIn K (.ref C) "__ne__" = some (some (.builtin "object.__ne__")))
    (h : wpAny M A (call (.builtin "object.__ne__") (.ref x :: args)) (fun v => Q (some v)) E s) : wpAny M A (callSpecialIfBound? (.ref x) "__ne__" args) Q E s := by
  simp only [callSpecialIfBound?, bindSpecialIfBound?]
  refine wpAny_holding (wpAny_bind (wpAny_bind (wpAny_bind (I.type.here ((PySem.W.looks_findIn X hs).here ?_)))))
  refine wpAny_bind (wpAny_askSetting (wpAny_ite ?_))
  have fin : wpAny M A (call (.builtin "object.__ne__") ([.ref x] ++ args) >>= fun v => pure (some v)) Q E s := wpAny_bind (wpAny_mono h (fun v s' h' => wpAny_pure h') fun _ _ h' => h')
  split
  · exact wpAny_bind (wpAny_of_eq (F.cmp_object.ne.bind _) (wpAny_pure (by exact fin)))
  · exact wpAny_tryCatch (wpAny_bind (wpAny_of_eq (F.cmp_object.ne.bind _) (wpAny_pure (by exact fin))))
/-- x != y, both of one class with an __eq__ of its own -/
theorem rc_neO {Q : Value → Shared → Prop} (hu : A.units + 1 < cLine) (X : K.In s.heap) (I : PySem.W.InstAt s.heap x ox C od) (hb : PySem.W.Looks (model prog w) s.heap (typeOf b) (.ref C)) (hm : PySem.W.mroIn K C (.type "object") = some true)
    (hn : PySem.W.findIn K (.ref C) "__ne__" = some (some (.builtin "object.__ne__"))) (hs : PySem.W.findIn K (.ref C) "__eq__" = some (some (.ref f))) (hf : PySem.W.isFn K (.ref f) = true)
    (h : wpAny (model prog w) A.in1 (call (.ref f) [.ref x, b]) (fun v s' => ∃ t, v = .bool t ∧ Q (.bool (!t)) s') E s) : wpAny (model prog w) A (richCompare .NotEq (.ref x) b) Q E s := by
  have one : wpAny (model prog w) A (tryCompare (.ref x) "__ne__" b) (fun r s' => ∃ t, r = some (.bool t) ∧ Q (.bool t) s') E s := by
    unfold tryCompare
    refine wpAny_bind (ifBound_objNe X I hn (call_neO hu X I hm hs hf (wpAny_mono h (fun v s' hv => ?_) fun _ _ e => e)))
    obtain ⟨t, rfl, hq⟩ := hv
    exact ⟨t, rfl, wpAny_pure ⟨_, rfl, hq⟩⟩
  unfold richCompare
  simp only [oneThing_ref]
  refine wpAny_holding (wpAny_bind (wpAny_cRoomFor (Nat.lt_of_succ_lt hu) ?_))
  rw [cmpInfo_NotEq]
  dsimp only
  refine wpAny_bind (I.type.here (wpAny_bind (hb.here ?_)))
  rw [show (Value.ref C != Value.ref C) = false from by simp]
  simp only [Bool.false_eq_true, if_false]
  refine wpAny_bind (wpAny_pure ?_)
  simp only [Bool.false_eq_true, if_false]
  refine wpAny_bind (wpAny_mono one (fun r s' z => ?_) fun _ _ e => e)
  obtain ⟨t, rfl, hq⟩ := z
  exact wpAny_pure hq
end
end L3N
namespace L3
open PySem L2 PySem.Spec PyProof.Rows
/-- a class with an __eq__ of its own, and no __ne__ -/
structure OwnE (K : PySem.W.Frag) (Ca f : Addr) : Prop where
  eq : PySem.W.findIn K (.ref Ca) "__eq__" = some (some (.ref f))
  fn : PySem.W.isFn K (.ref f) = true
  ne : PySem.W.findIn K (.ref Ca) "__ne__" = some (some (.builtin "object.__ne__"))
  ob : PySem.W.mroIn K Ca (.type "object") = some true
section
variable {X : Cx} {cl : ClsT} {H0 : Hp} {C0 : CH} {Ca fa : Addr} {fd : FuncData} {ps : List Str} {sp : Sp} {k : Nat} {g : List Src} {gV : List V → List V → List V}
def rEqO (Ca : Addr) (sp : Sp) (gV : List V → List V → List V) (f : Bool → Bool) : R2 := fun x y H Q => ∃ a b dx dy fs gs, x = .ref a ∧ y = .ref b ∧ H a = some (.ins Ca dx fs) ∧ H b = some (.ins Ca dy gs) ∧ sp (gV [.ref a, .ref b] []) H (fun v H' => ∃ t, v = .bl t ∧ Q (.bl (f t)) H') fun _ _ _ => False
theorem own_run {A : Around} {pins : List (Addr × Obj)} {s : Shared} {σ : L2.St} {H : Hp} {a b : Addr} {Q : VK} {gv : List Value → List Value → List Value} (F : FnOkG X.prog X.w X.K X.mg X.base (L2.CX X.prog X.w) k fa fd ps sp) (hr : Room k A) (hg : A.guards = some []) (hfr : A.frames = X.A.frames)
    (hb : BindsTo s fd ⟨[.ref a, .ref b], []⟩ (ps.zip (gv [.ref a, .ref b] []))) (hv : Vals (gV [.ref a, .ref b] []) (gv [.ref a, .ref b] [])) (I : Inv X pins σ H s)
    (h : sp (gV [.ref a, .ref b] []) H Q fun _ _ _ => False) : wpAny (model X.prog X.w) A (call (.ref fa) [.ref a, .ref b]) (EP X pins σ Q) X.xe s := by
  have e0 : Env0 X.prog X.w X.K X.mg X.base A X.stack s H := by
    have e := I.env0
    exact ⟨by rw [hfr]; exact e.frames, e.mod, e.bs, e.bsz, e.funs, e.frf, e.hok, e.bare⟩
  refine wpAny_call (codeAny_mono (F.run A X.stack s H ⟨[.ref a, .ref b], []⟩ _ _ Q (fun _ _ _ => False) hr hg e0 hb hv h) fun r s' hq => ?_)
  match r, hq with
  | .error e, hq => obtain ⟨_, _, _, _, _, _, _, _, _, _, _, _, z⟩ := hq; exact z.elim
  | .ok (.ret u), hq => exact I.after hq
theorem op_eqO {gv : List Value → List Value → List Value} (O : OwnE X.K Ca fa) (F : FnOkG X.prog X.w X.K X.mg X.base (L2.CX X.prog X.w) k fa fd ps sp) (hr : Room k X.A) (hg : X.A.guards = some []) (hb : ∀ (s : Shared) (us : List Value), X.K.In s.heap → us.length = 2 → BindsTo s fd ⟨us, []⟩ (ps.zip (gv us [])))
    (hv : ∀ {vs us zs ws}, Vals vs us → Vals zs ws → Vals (gV vs zs) (gv us ws)) : OpR X (compareOp .Eq) (rEqO Ca sp gV id) := by
  intro pins s σ H x y v u Q I rx ry ⟨a, b, dx, dy, fs, gs, ex, ey, ha, hb', hs⟩
  subst ex; subst ey
  cases rx; cases ry
  obtain ⟨mA, J, _⟩ := ins_get I.hok ha
  obtain ⟨mB, J', _⟩ := ins_get I.hok hb'
  obtain ⟨od, J, _⟩ := J.look
  obtain ⟨od', J', _⟩ := J'.look
  obtain ⟨m, hF⟩ := I.fr
  refine PySem.W.cmp_K (op := .Eq) (tb := .ref Ca) hr.units0 hF I.ok.mod.kin J J'.type (by simp [PySem.W.notFirst]) O.eq O.fn ?_
  refine wpAny_mono (own_run F hr hg rfl (hb s _ I.kIn rfl) (hv (.cons rfl (.cons rfl .nil)) .nil) I hs) (fun w s' q => ?_) fun _ _ e => e
  obtain ⟨z, H', I', rz, t, et, q⟩ := q
  subst et
  cases rz
  exact ⟨.bl t, H', I', rfl, q⟩
theorem op_neO {gv : List Value → List Value → List Value} (O : OwnE X.K Ca fa) (F : FnOkG X.prog X.w X.K X.mg X.base (L2.CX X.prog X.w) k fa fd ps sp) (hr : Room (k + 1) X.A) (hg : X.A.guards = some []) (hb : ∀ (s : Shared) (us : List Value), X.K.In s.heap → us.length = 2 → BindsTo s fd ⟨us, []⟩ (ps.zip (gv us [])))
    (hv : ∀ {vs us zs ws}, Vals vs us → Vals zs ws → Vals (gV vs zs) (gv us ws)) : OpR X (compareOp .NotEq) (rEqO Ca sp gV not) := by
  intro pins s σ H x y v u Q I rx ry ⟨a, b, dx, dy, fs, gs, ex, ey, ha, hb', hs⟩
  subst ex; subst ey
  cases rx; cases ry
  obtain ⟨mA, J, _⟩ := ins_get I.hok ha
  obtain ⟨mB, J', _⟩ := ins_get I.hok hb'
  obtain ⟨od, J, _⟩ := J.look
  obtain ⟨od', J', _⟩ := J'.look
  show wpAny (model X.prog X.w) X.A (richCompare .NotEq (.ref a) (.ref b)) (EP X pins σ Q) X.xe s
  refine L3N.rc_neO (by have := hr.units; omega) I.kIn J J'.type O.ob O.ne O.eq O.fn ?_
  refine wpAny_mono (own_run F hr.in1 hg rfl (hb s _ I.kIn rfl) (hv (.cons rfl (.cons rfl .nil)) .nil) I hs) (fun w s' q => ?_) fun _ _ e => e
  obtain ⟨z, H', I', rz, t, et, q⟩ := q
  subst et
  cases rz
  exact ⟨t, rfl, .bl (!t), H', I', rfl, q⟩
/-- x == y, x != y: f of the class c answers -/
def oEqO (c : Nat) (sem : SemF) (g : List Src) (f : Bool → Bool) : O2 := fun x y C Q => ∃ p q fs gs, x = .ref p ∧ y = .ref q ∧ C p = some (.ins c fs) ∧ C q = some (.ins c gs) ∧ sem (gath g [.ref p, .ref q] []) C (fun d C' => ∃ t, d = .bl t ∧ Q (.bl (f t)) C') fun _ _ => False
theorem lk_eqO {c np : Nat} {sem : SemF} {f : Bool → Bool} (hc : cl c = some Ca) (hl : (gath g [.ref 0, .ref 0] []).length = np) (b3 : ∀ H ds vs es zs, ds.length = 2 → es.length = 0 → RepL X.K H ds vs → RepL X.K H es zs → RepL X.K H (gath g ds es) (gV vs zs)) : Lk2 X.K cl (rEqO Ca (spC X.K cl np sem) gV f) (oEqO c sem g f) :=
  fun H C d e v u Q Qc rd re R ⟨p, q, fs, gs, e1, e2, h1, h2, h3⟩ hq => by
    subst e1; subst e2
    cases rd; cases re
    obtain ⟨Ca1, dx, fv, hc1, g1, _⟩ := R p _ h1
    obtain ⟨Ca2, dy, gv, hc2, g2, _⟩ := R q _ h2
    rw [hc] at hc1 hc2
    cases hc1; cases hc2
    refine ⟨p, q, dx, dy, fv, gv, rfl, rfl, g1, g2, _, C, _, _, b3 H [.ref p, .ref q] _ [] _ rfl rfl (.cons (.ref p) (.cons (.ref q) .nil)) .nil, ?_, R, h3, ?_, fun _ _ _ _ _ z => z.elim⟩
    · rw [← hl]; simp only [gath, List.length_map]
    · intro d' C' v' H' ⟨t, et, qt⟩ rv R' kk
      subst et
      cases rv
      exact ⟨t, rfl, hq _ _ _ _ qt (.bl _) R' kk⟩
end
end L3

/-! list(zip(xs, ys)) of two lists -/
namespace L3N
open PySem PySem.Spec PyProof.Rows
theorem zip_no_len : typeLookup (.type "zip") "__len__" = pure none := by rw [typeLookup_type, builtinLookup_eq_fast]; kernel_rfl
theorem zip_no_hint : typeLookup (.type "zip") "__length_hint__" = pure none := by rw [typeLookup_type, builtinLookup_eq_fast]; kernel_rfl
section
variable {prog : Program} {w : World} {A : Around} {E : Value → Shared → Prop} {s : Shared} {z TI TO T i1 i2 : Addr} {f : Bool} {oT : Obj} {fp1 fp2 : List Addr} {n1 n2 i : Nat} {P1 P2 : Nat → Value → Prop} {St1 St2 : Nat → Heap → Prop}
theorem item_held {Q : Value → Shared → Prop} (S : ZipSep2 z TI TO i1 i2 fp1 fp2) (D1 : Draws prog w A i1 fp1 n1 P1 St1) (D2 : Draws prog w A i2 fp2 n2 P2 St2) (hz : IsZipHeld s.heap z TI TO T f) (hT : s.heap.get? T = some oT) (hTI : IsTupOf2 s.heap TI (.ref i1) (.ref i2))
    (st1 : St1 i s.heap) (st2 : St2 i s.heap) (hlt1 : i < n1) (hlt2 : i < n2)
    (hQ : ∀ x1 x2 h' tk, P1 i x1 → P2 i x2 → IsZipHeld h' z TI TO T true → St1 (i + 1) h' → St2 (i + 1) h' → IsTupOf2 h' s.heap.objs.size x1 x2 → h'.objs.size = s.heap.objs.size + 1 →
      (∀ c o, c ≠ z → c ≠ i1 → c ≠ i2 → s.heap.get? c = some o → h'.get? c = some o) → Q (.ref s.heap.objs.size) { s with heap := h', toks := tk }) :
    wpAny (model prog w) A (Builtin.«zip.__next__» ⟨[.ref z], []⟩) (fun fin s' => ∃ v, fin = .done (.ret v) ∧ Q v s') E s := by
  obtain ⟨hp, g, d, tk0, os⟩ := s
  show wpAny _ _ (field (.ref z) 2 >>= _) _ _ _
  refine wpAny_bind (wpAny_field hz rfl (x := .bool false) rfl ?_)
  show wpAny _ _ (field (.ref z) 3 >>= _) _ _ _
  refine wpAny_bind (wpAny_field hz rfl (x := .ref TI) rfl ?_)
  refine wpAny_bind (wpAny_seqItems hTI rfl ?_)
  show wpAny _ _ (Builtin.SmallTypes.ownedTupleIsFree (.ref z) >>= _) _ _ _
  refine wpAny_bind (wpAny_tupleHeld_zip hz hT fun h₁ hz₁ hs₁ => ?_)
  replace hs₁ : Heap.SameBut z hp h₁ := hs₁
  simp only [Bool.false_eq_true, if_false]
  refine wpAny_bind ?_
  rw [← Array.forIn_toList]
  simp only [List.forIn_cons, List.forIn_nil]
  refine wpAny_bind (wpAny_bind (wpAny_holding ?_))
  show wpAny _ _ (Builtin.SmallTypes.nextOf (.ref i1) >>= _) _ _ ⟨h₁, g, d, tk0, os⟩
  refine wpAny_bind (D1.item i _ _ _ hlt1 (D1.over st1 hs₁ S.zf1) fun x1 p1 tk1 hx1 sn1 hp1 => wpAny_pure ?_)
  replace hp1 : Heap.SameBut i1 h₁ p1 := hp1
  refine wpAny_pure ?_
  refine wpAny_bind (wpAny_bind (wpAny_holding ?_))
  show wpAny _ _ (Builtin.SmallTypes.nextOf (.ref i2) >>= _) _ _ ⟨p1, g, d, tk1, os⟩
  refine wpAny_bind (D2.item i _ _ _ hlt2 (D2.over (D2.over st2 hs₁ S.zf2) hp1 S.sep1_2) fun x2 p2 tk2 hx2 sn2 hp2 => wpAny_pure ?_)
  replace hp2 : Heap.SameBut i2 p1 p2 := hp2
  refine wpAny_pure (wpAny_pure ?_)
  show wpAny _ _ (newTuple [x1, x2] >>= _) _ _ ⟨p2, g, d, tk2, os⟩
  refine wpAny_bind (wpAny_newTuple ?_)
  have hsz : p2.objs.size = hp.objs.size := by rw [hp2.1, hp1.1, hs₁.1]
  have hz3 : IsZipHeld p2 z TI TO T true := hp2.extBut _ _ S.zi2 (hp1.extBut _ _ S.zi1 hz₁)
  have hk : ∀ c o, c ≠ z → c ≠ i1 → c ≠ i2 → hp.get? c = some o → p2.get? c = some o := fun c o c1 c2 c3 e => hp2.extBut _ _ c3 (hp1.extBut _ _ c2 (hs₁.extBut _ _ c1 e))
  refine wpAny_pure ⟨_, rfl, ?_⟩
  show Q (.ref p2.objs.size) _
  have hpp : IsTupOf2 (p2.push { cls := .type "tuple", data := .seq #[x1, x2] }) p2.objs.size x1 x2 := Heap.get?_push_size _ rfl
  have hz4 : (p2.push { cls := .type "tuple", data := .seq #[x1, x2] }).objs.size = p2.objs.size + 1 := Heap.size_push ..
  rw [hsz] at hpp hz4 ⊢
  exact hQ x1 x2 _ tk2 hx1 hx2 (Heap.get?_push_of_some _ hz3) (D1.frame _ _ _ (D1.over sn1 hp2 S.sep2_1) fun b _ o e => Heap.get?_push_of_some _ e) (D2.frame _ _ _ sn2 fun b _ o e => Heap.get?_push_of_some _ e) hpp hz4 fun c o c1 c2 c3 e => Heap.get?_push_of_some _ (hk c o c1 c2 c3 e)
theorem end_held {Q : Fin → Shared → Prop} (S : ZipSep2 z TI TO i1 i2 fp1 fp2) (D1 : Draws prog w A i1 fp1 n1 P1 St1) (D2 : Draws prog w A i2 fp2 n2 P2 St2) (hz : IsZipHeld s.heap z TI TO T f) (hT : s.heap.get? T = some oT) (hTI : IsTupOf2 s.heap TI (.ref i1) (.ref i2))
    (st1 : St1 i s.heap) (st2 : St2 i s.heap) (hle1 : i ≤ n1) (hle2 : i ≤ n2) (hend : i = n1 ∨ i = n2)
    (hE : ∀ h' tk e, (∀ c o, c ≠ z → c ≠ i1 → c ≠ i2 → s.heap.get? c = some o → h'.get? c = some o) → (∃ o, h'.get? e = some o ∧ o.cls = .type "StopIteration") → E (.ref e) { s with heap := h', toks := tk }) :
    wpAny (model prog w) A (Builtin.«zip.__next__» ⟨[.ref z], []⟩) Q E s := by
  obtain ⟨hp, g, d, tk0, os⟩ := s
  show wpAny _ _ (field (.ref z) 2 >>= _) _ _ _
  refine wpAny_bind (wpAny_field hz rfl (x := .bool false) rfl ?_)
  show wpAny _ _ (field (.ref z) 3 >>= _) _ _ _
  refine wpAny_bind (wpAny_field hz rfl (x := .ref TI) rfl ?_)
  refine wpAny_bind (wpAny_seqItems hTI rfl ?_)
  show wpAny _ _ (Builtin.SmallTypes.ownedTupleIsFree (.ref z) >>= _) _ _ _
  refine wpAny_bind (wpAny_tupleHeld_zip hz hT fun h₁ hz₁ hs₁ => ?_)
  replace hs₁ : Heap.SameBut z hp h₁ := hs₁
  simp only [Bool.false_eq_true, if_false]
  refine wpAny_bind ?_
  rw [← Array.forIn_toList]
  simp only [List.forIn_cons, List.forIn_nil]
  refine wpAny_bind (wpAny_bind (wpAny_holding ?_))
  show wpAny _ _ (Builtin.SmallTypes.nextOf (.ref i1) >>= _) _ _ ⟨h₁, g, d, tk0, os⟩
  by_cases hlt1 : i < n1
  · refine wpAny_bind (D1.item i _ _ _ hlt1 (D1.over st1 hs₁ S.zf1) fun x1 p1 tk1 hx1 sn1 hp1 => wpAny_pure ?_)
    replace hp1 : Heap.SameBut i1 h₁ p1 := hp1
    have hi2 : i = n2 := by omega
    refine wpAny_pure ?_
    refine wpAny_bind (wpAny_bind (wpAny_holding ?_))
    show wpAny _ _ (Builtin.SmallTypes.nextOf (.ref i2) >>= _) _ _ ⟨p1, g, d, tk1, os⟩
    refine wpAny_bind (D2.done ⟨p1, g, d, tk1, os⟩ _ _ (by rw [← hi2]; exact D2.over (D2.over st2 hs₁ S.zf2) hp1 S.sep1_2) fun q e hq he => ?_)
    replace hq : Heap.ExtBut i2 p1 q := hq
    exact hE q tk1 e (fun c o c1 c2 c3 x => hq _ _ c3 (hp1.extBut _ _ c2 (hs₁.extBut _ _ c1 x))) he
  · have hi1 : i = n1 := by omega
    refine wpAny_bind (D1.done ⟨h₁, g, d, tk0, os⟩ _ _ (by rw [← hi1]; exact D1.over st1 hs₁ S.zf1) fun q e hq he => ?_)
    replace hq : Heap.ExtBut i1 h₁ q := hq
    exact hE q tk0 e (fun c o c1 c2 _ x => hq _ _ c2 (hs₁.extBut _ _ c1 x)) he
theorem next_item_held {Q : Option Value → Shared → Prop} (S : ZipSep2 z TI TO i1 i2 fp1 fp2) (D1 : Draws prog w A.in1 i1 fp1 n1 P1 St1) (D2 : Draws prog w A.in1 i2 fp2 n2 P2 St2) (hz : IsZipHeld s.heap z TI TO T f) (hT : s.heap.get? T = some oT) (hTI : IsTupOf2 s.heap TI (.ref i1) (.ref i2))
    (st1 : St1 i s.heap) (st2 : St2 i s.heap) (hlt1 : i < n1) (hlt2 : i < n2)
    (hQ : ∀ x1 x2 h' tk, P1 i x1 → P2 i x2 → IsZipHeld h' z TI TO T true → St1 (i + 1) h' → St2 (i + 1) h' → IsTupOf2 h' s.heap.objs.size x1 x2 → h'.objs.size = s.heap.objs.size + 1 →
      (∀ c o, c ≠ z → c ≠ i1 → c ≠ i2 → s.heap.get? c = some o → h'.get? c = some o) → Q (some (.ref s.heap.objs.size)) { s with heap := h', toks := tk }) : wpAny (model prog w) A (pyNext (.ref z)) Q E s := by
  have hTy : s.TypeIs (.ref z) "zip" := ⟨_, hz, rfl⟩
  unfold pyNext
  exact wpAny_bind (wpAny_attempt (wpAny_callSpecial?_slot (name := Str.ofString "__next__") hTy F.slot_zip_next
    (wpAny_call_entry F.slot_zip_next hTy F.entry_zip_next
      (item_held S D1 D2 hz hT hTI st1 st2 hlt1 hlt2 fun x1 x2 h' tk y1 y2 b1 d1 d2 b5 b6 b7 => wpAny_pure (hQ x1 x2 h' tk y1 y2 b1 d1 d2 b5 b6 b7)) (F.args_zip_next_1 _))))
theorem next_end_held {Q : Option Value → Shared → Prop} (S : ZipSep2 z TI TO i1 i2 fp1 fp2) (D1 : Draws prog w A.in1 i1 fp1 n1 P1 St1) (D2 : Draws prog w A.in1 i2 fp2 n2 P2 St2) (hz : IsZipHeld s.heap z TI TO T f) (hT : s.heap.get? T = some oT) (hTI : IsTupOf2 s.heap TI (.ref i1) (.ref i2))
    (st1 : St1 i s.heap) (st2 : St2 i s.heap) (hle1 : i ≤ n1) (hle2 : i ≤ n2) (hend : i = n1 ∨ i = n2)
    (hQ : ∀ h' tk, (∀ c o, c ≠ z → c ≠ i1 → c ≠ i2 → s.heap.get? c = some o → h'.get? c = some o) → Q none { s with heap := h', toks := tk }) : wpAny (model prog w) A (pyNext (.ref z)) Q E s := by
  have hTy : s.TypeIs (.ref z) "zip" := ⟨_, hz, rfl⟩
  unfold pyNext
  refine wpAny_bind (wpAny_attempt (wpAny_callSpecial?_slot (name := Str.ofString "__next__") hTy F.slot_zip_next
    (wpAny_call_entry F.slot_zip_next hTy F.entry_zip_next (end_held S D1 D2 hz hT hTI st1 st2 hle1 hle2 hend fun h' tk e hk he => ?_) (F.args_zip_next_1 _))))
  obtain ⟨o, ho, hc⟩ := he
  refine wpAny_bind (wpAny_isInstance (T := "StopIteration") (b := true) ⟨o, ho, hc⟩ isSubtype_stop ?_)
  exact wpAny_pure (hQ _ _ hk)
end
/-- the pairs that were laid -/
structure ZPairs (h0 h : Heap) (S : Addr) (xs ys : Array Value) (ts : List Addr) : Prop where
  tup : ∀ (j : Nat) (t : Addr), ts[j]? = some t → (∃ x y, xs[j]? = some x ∧ ys[j]? = some y ∧ IsTupOf2 h t x y) ∧ t ≠ S ∧ h0.objs.size ≤ t
  nod : ts.Nodup
  hS : ∃ c, h.get? S = some { cls := .type "list", data := .seq (ts.map Value.ref).toArray c }
  keep : ∀ b o, h0.get? b = some o → h.get? b = some o
structure ZSt (h0 h : Heap) (z TI TO i1 i2 S : Addr) (St1 St2 : Nat → Heap → Prop) (xs ys : Array Value) (i : Nat) (ts : List Addr) : Prop where
  hTI : IsTupOf2 h TI (.ref i1) (.ref i2)
  h1 : St1 i h
  h2 : St2 i h
  zz : (IsZip h z TI TO .none ∧ ∃ a b, IsTupOf2 h TO a b) ∨ ∃ T f oT, IsZipHeld h z TI TO T f ∧ h.get? T = some oT ∧ T ≠ z ∧ T ≠ i1 ∧ T ≠ i2 ∧ T ≠ S
  thO : ∃ o, h.get? TO = some o
  len : ts.length = i
  far : ∀ t ∈ ts, t ≠ z ∧ t ≠ TO ∧ t ≠ i1 ∧ t ≠ i2
  ps : ZPairs h0 h S xs ys ts
  big : h0.objs.size ≤ h.objs.size
structure ZOff (h0 : Heap) (z TI TO i1 i2 S : Addr) (fp1 fp2 : List Addr) : Prop where
  D : ZipSep2 z TI TO i1 i2 fp1 fp2
  Sz : S ≠ z
  STI : S ≠ TI
  STO : S ≠ TO
  S1 : S ∉ fp1
  S2 : S ∉ fp2
  gz : h0.objs.size ≤ z
  gTO : h0.objs.size ≤ TO
  gi1 : h0.objs.size ≤ i1
  gi2 : h0.objs.size ≤ i2
  gS : h0.objs.size ≤ S
section
variable {prog : Program} {w : World} {A : Around} {s : Shared} {h0 h h' : Heap} {z TI TO i1 i2 S : Addr} {fp1 fp2 : List Addr} {St1 St2 : Nat → Heap → Prop} {xs ys : Array Value} {i : Nat} {ts : List Addr}
theorem ZOff.Si1 (O : ZOff h0 z TI TO i1 i2 S fp1 fp2) : S ≠ i1 := fun e => O.S1 (by rw [e]; exact O.D.mem1)
theorem ZOff.Si2 (O : ZOff h0 z TI TO i1 i2 S fp1 fp2) : S ≠ i2 := fun e => O.S2 (by rw [e]; exact O.D.mem2)
/-- other than these is kept -/
theorem ZPairs.move (O : ZOff h0 z TI TO i1 i2 S fp1 fp2) (p : ZPairs h0 h S xs ys ts) (far : ∀ t ∈ ts, t ≠ z ∧ t ≠ TO ∧ t ≠ i1 ∧ t ≠ i2) (hk : ∀ c o, c ≠ z → c ≠ TO → c ≠ i1 → c ≠ i2 → h.get? c = some o → h'.get? c = some o) : ZPairs h0 h' S xs ys ts := by
  refine ⟨fun j t e => ?_, p.nod, ?_, fun b o e => ?_⟩
  · obtain ⟨⟨x, y, e1, e2, e3⟩, r1, r2⟩ := p.tup j t e
    obtain ⟨f1, f2, f3, f4⟩ := far t (List.mem_of_getElem? e)
    exact ⟨⟨x, y, e1, e2, hk _ _ f1 f2 f3 f4 e3⟩, r1, r2⟩
  · obtain ⟨c, e⟩ := p.hS
    exact ⟨c, hk _ _ O.Sz O.STO O.Si1 O.Si2 e⟩
  · have hb := Heap.lt_size e
    have n : ∀ a, h0.objs.size ≤ a → b ≠ a := fun a ha => Nat.ne_of_lt (Nat.lt_of_lt_of_le hb ha)
    exact hk _ _ (n _ O.gz) (n _ O.gTO) (n _ O.gi1) (n _ O.gi2) (p.keep b o e)
/-- one more pair in the list -/
theorem ZPairs.push {x y : Value} {t : Addr} (O : ZOff h0 z TI TO i1 i2 S fp1 fp2) (p : ZPairs h0 h S xs ys ts) (hx : xs[ts.length]? = some x) (hy : ys[ts.length]? = some y) (ht : IsTupOf2 h t x y) (htS : t ≠ S) (htn : t ∉ ts) (hg : h0.objs.size ≤ t) :
    ZPairs h0 (h.update S (Obj.mapSeq (·.push (.ref t)))) S xs ys (ts ++ [t]) := by
  obtain ⟨c, hS⟩ := p.hS
  have oth : ∀ b o, b ≠ S → h.get? b = some o → (h.update S (Obj.mapSeq (·.push (.ref t)))).get? b = some o := fun b o hb e => (Heap.get?_update_other _ _ (Ne.symm hb)).trans e
  refine ⟨fun j u e => ?_, ?_, ?_, fun b o e => ?_⟩
  · by_cases hj : j < ts.length
    · rw [List.getElem?_append_left hj] at e
      obtain ⟨⟨x', y', e1, e2, e3⟩, r1, r2⟩ := p.tup j u e
      exact ⟨⟨x', y', e1, e2, oth _ _ r1 e3⟩, r1, r2⟩
    · rw [List.getElem?_append_right (by omega)] at e
      cases hk : j - ts.length with
      | zero =>
        rw [hk] at e
        simp only [List.getElem?_cons_zero, Option.some.injEq] at e
        subst e
        have ej : j = ts.length := by omega
        rw [ej]
        exact ⟨⟨x, y, hx, hy, oth _ _ htS ht⟩, htS, hg⟩
      | succ k => rw [hk] at e; simp at e
  · refine List.nodup_append.mpr ⟨p.nod, by simp, fun a ha b hb => ?_⟩
    rw [List.mem_singleton.mp hb]
    exact fun e => htn (e ▸ ha)
  · have e : (List.map Value.ref (ts ++ [t])).toArray = (List.map Value.ref ts).toArray.push (.ref t) := by simp
    rw [e]
    exact ⟨_, Heap.get?_update_self (Obj.mapSeq (·.push (.ref t))) hS rfl⟩
  · have hb := Heap.lt_size e
    exact oth _ _ (Nat.ne_of_lt (Nat.lt_of_lt_of_le hb O.gS)) (p.keep b o e)
/-- the list takes the pairs, one by one -/
theorem zip_drain {res : Value} {R : Result → Shared → Prop} (O : ZOff h0 z TI TO i1 i2 S fp1 fp2) (D1 : Draws prog w A.in1.in1 i1 fp1 xs.size (fun i v => xs[i]? = some v) St1) (D2 : Draws prog w A.in1.in1 i2 fp2 ys.size (fun i v => ys[i]? = some v) St2) (hsz : min xs.size ys.size ≤ sizeLine)
    (hend : ∀ h' ts tk, ts.length = min xs.size ys.size → ZPairs h0 h' S xs ys ts → R (.ok (.ret res)) { s with heap := h', toks := tk }) :
    ∀ (k i : Nat) (ts : List Addr) (h : Heap) (tk : Nat), min xs.size ys.size - i = k → i ≤ min xs.size ys.size → ZSt h0 h z TI TO i1 i2 S St1 St2 xs ys i ts → codeAny (model prog w) A (.builtin "list.extend.loop" ⟨[.ref S, .ref z, res], []⟩) R { s with heap := h, toks := tk } := by
  have D := O.D
  intro k
  induction k with
  | zero =>
    intro i ts h tk hk hi st
    obtain ⟨hTI, h1, h2, hz, thO, len, far, ps, big⟩ := st
    refine codeAny_builtin F.entry_extend_loop ?_
    rw [Around.under_plainId F.plain_extend_loop _]
    show wpAny _ A.in1 (pyNext (.ref z) >>= _) _ _ _
    have m1 := Nat.min_le_left xs.size ys.size
    have m2 := Nat.min_le_right xs.size ys.size
    have hend' : i = xs.size ∨ i = ys.size := by
      rcases Nat.le_total xs.size ys.size with q | q
      · exact .inl (by rw [Nat.min_eq_left q] at hk hi; omega)
      · exact .inr (by rw [Nat.min_eq_right q] at hk hi; omega)
    rcases hz with ⟨hz, a, b, hTO⟩ | ⟨T, f, oT, hz, hT, r1, r2, r3, r4⟩
    · refine wpAny_bind (wpAny_pyNext_zipD2_end (s := { s with heap := h, toks := tk }) (A := A.in1) D D1 D2 hz hTI hTO h1 h2 (by omega) (by omega) hend' fun h' tk' kp => ?_)
      exact wpAny_pure (hend h' ts tk' (by omega) (ps.move O far kp))
    · refine wpAny_bind (next_end_held (s := { s with heap := h, toks := tk }) (A := A.in1) D D1 D2 hz hT hTI h1 h2 (by omega) (by omega) hend' fun h' tk' kp => ?_)
      exact wpAny_pure (hend h' ts tk' (by omega) (ps.move O far fun c o c1 _ c3 c4 e => kp c o c1 c3 c4 e))
  | succ k ih =>
    intro i ts h tk hk hi st
    obtain ⟨hTI, h1, h2, hz, thO, len, far, ps, big⟩ := st
    refine codeAny_builtin F.entry_extend_loop ?_
    rw [Around.under_plainId F.plain_extend_loop _]
    show wpAny _ A.in1 (pyNext (.ref z) >>= _) _ _ _
    have hix : i < xs.size := Nat.lt_of_lt_of_le (by omega : i < min xs.size ys.size) (Nat.min_le_left ..)
    have hiy : i < ys.size := Nat.lt_of_lt_of_le (by omega : i < min xs.size ys.size) (Nat.min_le_right ..)
    have lt : ∀ {c o}, h.get? c = some o → h.objs.size ≠ c := fun e => Nat.ne_of_gt (Heap.lt_size e)
    have n1 : h.objs.size ≠ i1 := let ⟨_, e⟩ := D1.live _ _ h1; lt e
    have n2 : h.objs.size ≠ i2 := let ⟨_, e⟩ := D2.live _ _ h2; lt e
    have nS : h.objs.size ≠ S := let ⟨_, e⟩ := ps.hS; lt e
    have nTO : h.objs.size ≠ TO := let ⟨_, e⟩ := thO; lt e
    have nts : h.objs.size ∉ ts := fun m => by
      obtain ⟨j, hj⟩ := List.getElem?_of_mem m
      obtain ⟨⟨x, y, _, _, e⟩, _⟩ := ps.tup j _ hj
      exact lt e rfl
    -- what stands behind the next pair
    have go : ∀ (x y : Value) (h' : Heap) (tk' : Nat) (T : Addr) (f : Bool) (oT : Obj), xs[i]? = some x → ys[i]? = some y → IsZipHeld h' z TI TO T f → h'.get? T = some oT → T ≠ z → T ≠ i1 → T ≠ i2 → T ≠ S → IsTupOf2 h' TI (.ref i1) (.ref i2) → St1 (i + 1) h' → St2 (i + 1) h' → (∃ o, h'.get? TO = some o) →
        IsTupOf2 h' h.objs.size x y → h'.objs.size = h.objs.size + 1 → ZPairs h0 h' S xs ys ts → h.objs.size ≠ z →
        wpAny (model prog w) A.in1 (updateSeq S (·.push (.ref h.objs.size)) >>= fun _ => (pure (Fin.again (.builtin "list.extend.loop" ⟨[.ref S, .ref z, res], []⟩)) : Sem Fin)) (fun fin s' => match fin with | Fin.done f => R (.ok f) s' | Fin.again c' => c'.quiet = true ∧ codeAny (model prog w) A c' R s') (fun e s' => R (.error e) s') { s with heap := h', toks := tk' } := by
      intro x y h' tk' T f oT ex ey hz' hT' r1 r2 r3 r4 hTI' h1' h2' thO' hp hsz' ps' nz
      obtain ⟨c, hS⟩ := ps'.hS
      have tl : (ts.map Value.ref).toArray.size < sizeLine := by
        rw [List.size_toArray, List.length_map]; omega
      refine wpAny_bind (wpAny_updateSeq hS rfl (wpAny_pure ⟨plainId_quiet F.plain_extend_loop _, ?_⟩) (Nat.le_of_lt tl) (by show ((ts.map Value.ref).toArray.push _).size ≤ sizeLine + 1; rw [Array.size_push]; omega))
      have oth : ∀ b o, b ≠ S → h'.get? b = some o → (h'.update S (Obj.mapSeq (·.push (.ref h.objs.size)))).get? b = some o := fun b o hb e => (Heap.get?_update_other _ _ (Ne.symm hb)).trans e
      have usz : (h'.update S (Obj.mapSeq (·.push (.ref h.objs.size)))).objs.size = h'.objs.size := by first | exact Heap.size_update .. | simp [Heap.update]
      refine ih (i + 1) (ts ++ [h.objs.size]) _ tk' (by omega) (by omega) ⟨oth _ _ (Ne.symm O.STI) hTI', D1.frame _ _ _ h1' fun b hb o e => oth b o (fun q => O.S1 (q ▸ hb)) e, D2.frame _ _ _ h2' fun b hb o e => oth b o (fun q => O.S2 (q ▸ hb)) e,
        .inr ⟨T, f, oT, oth _ _ (Ne.symm O.Sz) hz', oth _ _ r4 hT', r1, r2, r3, r4⟩, (let ⟨o, e⟩ := thO'; ⟨o, oth _ o (Ne.symm O.STO) e⟩), by rw [List.length_append, len]; rfl, fun t ht => ?_, ps'.push O (by rw [len]; exact ex) (by rw [len]; exact ey) hp nS nts big, by show h0.objs.size ≤ (h'.update S (Obj.mapSeq (·.push (.ref h.objs.size)))).objs.size; omega⟩
      rcases List.mem_append.mp ht with ht | ht
      · exact far t ht
      · rw [List.mem_singleton.mp ht]; exact ⟨nz, nTO, n1, n2⟩
    rcases hz with ⟨hz, a, b, hTO⟩ | ⟨T, f, oT, hz, hT, r1, r2, r3, r4⟩
    · refine wpAny_bind (wpAny_pyNext_zipD2_item (s := { s with heap := h, toks := tk }) (A := A.in1) D D1 D2 hz hTI hTO h1 h2 hix hiy fun x y h' tk' ex ey a1 a2 a3 a4 a5 a6 kp => ?_)
      exact go x y h' tk' h.objs.size false _ ex ey a1 a5 (lt hz) n1 n2 nS (kp _ _ D.TIz D.TITO D.TIi1 D.TIi2 hTI) a3 a4 ⟨_, a2⟩ a5 a6 (ps.move O far kp) (lt hz)
    · refine wpAny_bind (next_item_held (s := { s with heap := h, toks := tk }) (A := A.in1) D D1 D2 hz hT hTI h1 h2 hix hiy fun x y h' tk' ex ey a1 a3 a4 a5 a6 kp => ?_)
      exact go x y h' tk' T true oT ex ey a1 (kp _ _ r1 r2 r3 hT) r1 r2 r3 r4 (kp _ _ D.TIz D.TIi1 D.TIi2 hTI) a3 a4 (let ⟨o, e⟩ := thO; ⟨o, kp _ o D.TOz D.Ti1 D.Ti2 e⟩) a5 a6 (ps.move O far fun c o c1 _ c3 c4 e => kp c o c1 c3 c4 e) (lt hz)
/-- list(z), z a zip of two lists that has not begun -/
theorem call_list_zip {E : Value → Shared → Prop} {Q : Value → Shared → Prop} (hS : s.heap.objs.size = S) (O : ZOff h0 z TI TO i1 i2 S fp1 fp2) (D1 : Draws prog w A.in1.in1.in1 i1 fp1 xs.size (fun i v => xs[i]? = some v) St1) (D2 : Draws prog w A.in1.in1.in1 i2 fp2 ys.size (fun i v => ys[i]? = some v) St2) (hsz : min xs.size ys.size ≤ sizeLine)
    (hz : IsZip s.heap z TI TO .none) (hTI : IsTupOf2 s.heap TI (.ref i1) (.ref i2)) (hTO : ∃ a b, IsTupOf2 s.heap TO a b) (h1 : St1 0 s.heap) (h2 : St2 0 s.heap)
    (hk : ∀ b o, h0.get? b = some o → s.heap.get? b = some o) (hb : h0.objs.size ≤ s.heap.objs.size)
    (hQ : ∀ h' ts tk, ts.length = min xs.size ys.size → ZPairs h0 h' S xs ys ts → Q (.ref S) { s with heap := h', toks := tk }) : wpAny (model prog w) A (call (.type "list") [.ref z]) Q E s := by
  subst hS
  have hzl := Heap.lt_size hz
  have hSa : s.heap.objs.size ≠ z := O.Sz
  refine callType_codes (Q₁ := fun obj s₁ => obj = .ref s.heap.objs.size ∧ s₁ = { s with heap := s.heap.push { cls := .type "list", data := .seq #[] } }) F.called_list (F.typeCall_list_1 _) F.entry_list_init
    (code_list_new _ ⟨rfl, rfl⟩) fun obj s₁ h₁ => ?_
  obtain ⟨rfl, rfl⟩ := h₁
  have hS : (s.heap.push { cls := .type "list", data := .seq #[] }).get? s.heap.objs.size = some { cls := .type "list", data := .seq #[] } := Heap.get?_push_size _ rfl
  refine ⟨⟨_, hS, rfl⟩, F.args_list_init_2 _ _, ?_⟩
  show wpAny _ A.in1.in1 (do let old ← Builtin.List.listItems (.ref s.heap.objs.size); Builtin.List.listUpdate (.ref s.heap.objs.size) (fun _ => #[]); letGo old.toList.reverse; Builtin.List.listExtendWith (.ref s.heap.objs.size) (.ref z) .none) _ _ _
  refine wpAny_bind ?_
  unfold Builtin.List.listItems
  refine wpAny_bind (wpAny_seqItems hS rfl (wpAny_pure ?_))
  show wpAny _ A.in1.in1 (updateSeq s.heap.objs.size (fun _ => #[]) >>= fun _ => letGo (#[] : Array Value).toList.reverse >>= fun _ => Builtin.List.listExtendWith (.ref s.heap.objs.size) (.ref z) .none) _ _ _
  refine wpAny_bind (wpAny_updateSeq hS rfl ?_)
  have hS2 := Heap.get?_update_self (Obj.mapSeq (fun _ => (#[] : Array Value))) hS rfl
  refine wpAny_bind (wpAny_letGo ?_)
  unfold Builtin.List.listExtendWith
  have up : ∀ (h : Heap) (f : Obj → Obj), (∀ b o, s.heap.get? b = some o → h.get? b = some o) → ∀ b o, s.heap.get? b = some o → (h.update s.heap.objs.size f).get? b = some o := fun h f q b o e =>
    (Heap.get?_update_other _ _ (Ne.symm (Nat.ne_of_lt (Heap.lt_size e)))).trans (q b o e)
  have k1 : ∀ b o, s.heap.get? b = some o → (s.heap.push { cls := .type "list", data := .seq #[] }).get? b = some o := fun b o e => Heap.get?_push_of_some _ e
  have k2 := up _ (Obj.mapSeq (fun _ => (#[] : Array Value))) k1
  have zty : ∀ {h : Heap}, (∀ b o, s.heap.get? b = some o → h.get? b = some o) → ({ s with heap := h } : Shared).TypeIs (.ref z) "zip" := fun {h} q => ⟨_, q _ _ hz, rfl⟩
  refine wpAny_bind (wpAny_typeOf (zty k2) ?_)
  have g1 : Builtin.List.listSameRef (.ref s.heap.objs.size) (.ref z) = false := by simp [Builtin.List.listSameRef, hSa]
  have g2 : (Value.type "zip" == Value.type "list") = false := by decide
  have g3 : (Value.type "zip" == Value.type "tuple") = false := by decide
  simp only [g1, g2, g3, Bool.or_false, Bool.false_eq_true, if_false]
  refine wpAny_bind (wpAny_pyIter_zip (s := { s with heap := _ }) (k2 _ _ hz) ?_)
  refine wpAny_bind (wpAny_holding ?_)
  unfold Builtin.List.listLengthHint
  refine wpAny_bind (wpAny_specialOf (zty k2) zip_no_len ?_)
  show wpAny _ A.in1.in1 (specialOf (Value.ref z) (Str.ofString "__length_hint__") >>= _) _ _ _
  refine wpAny_bind (wpAny_specialOf (zty k2) zip_no_hint ?_)
  refine wpAny_pure ?_
  show wpAny _ A.in1.in1 (rule "list.extend.makes-room" >>= fun _ => Builtin.List.listTouch (.ref s.heap.objs.size) >>= fun _ =>
    again (.builtin "list.extend.loop" ⟨[.ref s.heap.objs.size, .ref z, .none], []⟩)) _ _ _
  refine wpAny_bind (wpAny_rule ?_)
  refine wpAny_bind ?_
  show wpAny _ A.in1.in1 (updateSeq s.heap.objs.size (·.push .none) >>= fun _ => updateSeq s.heap.objs.size (·.pop)) _ _ _
  refine wpAny_bind (wpAny_updateSeq hS2 rfl ?_)
  have hS3 := Heap.get?_update_self (Obj.mapSeq (·.push Value.none)) hS2 rfl
  refine wpAny_updateSeq (hz := by seq_fits) hS3 rfl ?_
  have hS4 := Heap.get?_update_self (Obj.mapSeq (·.pop)) hS3 rfl
  have k4 := up _ (Obj.mapSeq (·.pop)) (up _ (Obj.mapSeq (·.push Value.none)) k2)
  refine wpAny_pure ⟨plainId_quiet F.plain_extend_loop _, ?_⟩
  refine zip_drain (A := A.in1) (s := s) O D1 D2 hsz (fun h' ts tk hl ps => ⟨rfl, hQ h' ts tk hl ps⟩) _ 0 [] _ s.toks rfl (Nat.zero_le _) ⟨k4 _ _ hTI, D1.frame _ _ _ h1 fun b _ o e => k4 b o e, D2.frame _ _ _ h2 fun b _ o e => k4 b o e,
    .inl ⟨k4 _ _ hz, let ⟨a, b, e⟩ := hTO; ⟨a, b, k4 _ _ e⟩⟩, (let ⟨a, b, e⟩ := hTO; ⟨_, k4 _ _ e⟩), rfl, (fun _ h => nomatch h), ⟨fun j t e => by simp at e, .nil, ⟨_, hS4⟩, fun b o e => k4 b o (hk b o e)⟩, Nat.le_of_lt (Nat.lt_of_le_of_lt hb (Heap.lt_size hS4))⟩
end
/-- what zip takes: a list or a tuple -/
structure ZSrc (prog : Program) (w : World) (A : Around) (l : Addr) (items : Array Value) (h : Heap) : Prop where
  ex : ∃ (o : Obj) (Hh : Heap → Prop) (St : Addr → Nat → Heap → Prop), Begins (.ref l) o Hh ∧ Hh h ∧ l < h.objs.size ∧ (∀ it, l ≠ it → Draws prog w A it [it, l] items.size (fun i v => items[i]? = some v) (St it)) ∧ ∀ it h', h'.get? it = some o → Hh h' → St it 0 h'
theorem src_list {prog : Program} {w : World} {A : Around} {l : Addr} {items : Array Value} {h : Heap} (hh : A.handled = none) (hl : h.IsList l items) : ZSrc prog w A l items h :=
  ⟨_, _, fun it i h => h.IsListIter it l i ∧ h.IsList l items, begins_list l items, hl, (let ⟨_, e, _⟩ := hl; Heap.lt_size e), fun it hne => Draws.list hh it l hne items, fun it h' e hl' => ⟨⟨_, e, rfl, rfl⟩, hl'⟩⟩
theorem src_tuple {prog : Program} {w : World} {A : Around} {l : Addr} {items : Array Value} {h : Heap} (hh : A.handled = none) (hl : h.IsTuple l items) : ZSrc prog w A l items h :=
  ⟨_, _, fun it i h => h.IsTupleIter it l i ∧ h.IsTuple l items, begins_tuple l items, hl, (let ⟨_, e, _⟩ := hl; Heap.lt_size e), fun it hne => Draws.tuple hh it l hne items, fun it h' e hl' => ⟨⟨_, e, rfl, rfl⟩, hl'⟩⟩
theorem no_mem {a b c : Nat} (h1 : a ≠ b) (h2 : a ≠ c) : (a : Addr) ∉ ([b, c] : List Addr) := fun m => by
  rcases List.mem_cons.mp m with e | m
  · exact h1 e
  · exact h2 (List.mem_singleton.mp m)
theorem zoff {h0 : Heap} {n : Nat} {l1 l2 : Nat} (hn : h0.objs.size = n) (h1 : l1 < n) (h2 : l2 < n) : ZOff h0 (n + 4 : Nat) (n + 2 : Nat) (n + 3 : Nat) n (n + 1 : Nat) (n + 5 : Nat) [n, l1] [(n + 1 : Nat), l2] where
  D := {
    TIz := (by omega : (n + 2 : Nat) ≠ n + 4)
    TOz := (by omega : (n + 3 : Nat) ≠ n + 4)
    TITO := (by omega : (n + 2 : Nat) ≠ n + 3)
    TIi1 := (by omega : (n + 2 : Nat) ≠ n)
    mem1 := List.mem_cons_self
    zf1 := no_mem (by omega) (by omega)
    Tf1 := no_mem (by omega) (by omega)
    TIi2 := (by omega : (n + 2 : Nat) ≠ n + 1)
    mem2 := List.mem_cons_self
    zf2 := no_mem (by omega) (by omega)
    Tf2 := no_mem (by omega) (by omega)
    sep1_2 := no_mem (by omega) (by omega)
    sep2_1 := no_mem (by omega) (by omega) }
  Sz := (by omega : (n + 5 : Nat) ≠ n + 4)
  STI := (by omega : (n + 5 : Nat) ≠ n + 2)
  STO := (by omega : (n + 5 : Nat) ≠ n + 3)
  S1 := no_mem (by omega) (by omega)
  S2 := no_mem (by omega) (by omega)
  gz := by rw [hn]; exact Nat.le_add_right _ _
  gTO := by rw [hn]; exact Nat.le_add_right _ _
  gi1 := by rw [hn]; exact Nat.le_refl _
  gi2 := by rw [hn]; exact Nat.le_add_right _ _
  gS := by rw [hn]; exact Nat.le_add_right _ _
theorem zip_list {prog : Program} {w : World} {A : Around} {s : Shared} {l1 l2 : Addr} {xs ys : Array Value} {Q : Value → Shared → Prop} {E : Value → Shared → Prop} (Z1 : ZSrc prog w A.in1.in1.in1 l1 xs s.heap) (Z2 : ZSrc prog w A.in1.in1.in1 l2 ys s.heap) (hsz : min xs.size ys.size ≤ sizeLine)
    (hQ : ∀ S h' ts tk, s.heap.objs.size ≤ S → ts.length = min xs.size ys.size → ZPairs s.heap h' S xs ys ts → Q (.ref S) { s with heap := h', toks := tk }) :
    wpAny (model prog w) A (call (.type "zip") [.ref l1, .ref l2]) (fun v s1 => wpAny (model prog w) A (call (.type "list") [v]) Q E s1) E s := by
  obtain ⟨o1, H1, St1, B1, k1, lt1, D1, b1⟩ := Z1.ex
  obtain ⟨o2, H2, St2, B2, k2, lt2, D2, b2⟩ := Z2.ex
  refine zip_begins2 B1 B2 k1 k2 fun h' hz hTI hTO g1 g2 hn hk => ?_
  have O := zoff (h0 := s.heap) rfl lt1 lt2
  have n1 : l1 ≠ s.heap.objs.size := Nat.ne_of_lt lt1
  have n2 : l2 ≠ s.heap.objs.size + 1 := Nat.ne_of_lt (Nat.lt_succ_of_lt lt2)
  exact call_list_zip (s := { s with heap := h' }) (h0 := s.heap) hn O (D1 _ n1) (D2 _ n2) hsz hz hTI ⟨_, _, hTO⟩ (b1 _ _ g1 (B1.keeps _ _ k1 hk)) (b2 _ _ g2 (B2.keeps _ _ k2 hk)) hk (by rw [hn]; exact Nat.le_add_right _ _)
    fun h2 ts tk hl ps => hQ _ h2 ts tk (Nat.le_add_right _ _) hl ps
end L3N
namespace L3
open PySem L2 PySem.Spec PyProof.Rows
def tupH (H : Hp) : List (Addr × V × V) → Hp
  | [] => H
  | q :: r => upd (tupH H r) q.1 (.tup [q.2.1, q.2.2])
theorem tupH_off {H : Hp} {b : Addr} : ∀ {l : List (Addr × V × V)}, b ∉ l.map (·.1) → tupH H l b = H b
  | [], _ => rfl
  | q :: r, h => by
    simp only [List.map_cons, List.mem_cons, not_or] at h
    rw [tupH, upd_ne h.1]
    exact tupH_off h.2
theorem tupH_at {H : Hp} {q : Addr × V × V} : ∀ {l : List (Addr × V × V)}, (l.map (·.1)).Nodup → q ∈ l → tupH H l q.1 = some (.tup [q.2.1, q.2.2])
  | p :: r, nd, m => by
    simp only [List.map_cons, List.nodup_cons] at nd
    rw [tupH]
    rcases List.mem_cons.mp m with e | m
    · subst e; exact upd_same
    · have ne : q.1 ≠ p.1 := fun e => nd.1 (by rw [← e]; exact List.mem_map_of_mem m)
      rw [upd_ne ne]
      exact tupH_at nd.2 m
section
variable {X : Cx} {pins : List (Addr × Obj)} {σ : L2.St} {H : Hp} {s : Shared} {h' : Heap} {S : Addr} {l : List (Addr × V × V)}
theorem inv_pairs {tk : Nat} (I : Inv X pins σ H s) (nd : (l.map (·.1)).Nodup) (ge : ∀ q ∈ l, s.heap.objs.size ≤ q.1) (gS : s.heap.objs.size ≤ S) (nS : S ∉ l.map (·.1)) (keep : ∀ b u, s.heap.get? b = some u → h'.get? b = some u)
    (tu : ∀ q ∈ l, ∃ x y, RelV q.2.1 x ∧ RelV q.2.2 y ∧ IsTupOf2 h' q.1 x y) (li : ∃ c, h'.get? S = some { cls := .type "list", data := .seq (l.map fun q => Value.ref q.1).toArray c }) (len : l.length ≤ sizeLine) :
    Inv X pins σ (upd (tupH H l) S (.lst (l.map fun q => V.ref q.1))) { s with heap := h', toks := tk } := by
  have old : ∀ b, b < s.heap.objs.size → upd (tupH H l) S (.lst (l.map fun q => V.ref q.1)) b = H b := fun b hb => by
    have n1 : b ≠ S := Nat.ne_of_lt (Nat.lt_of_lt_of_le hb gS)
    have n2 : b ∉ l.map (·.1) := fun m => by
      obtain ⟨q, hq, e⟩ := List.mem_map.mp m
      exact absurd (Nat.lt_of_lt_of_le hb (ge q hq)) (by rw [e]; exact Nat.lt_irrefl _)
    rw [upd_ne n1, tupH_off n2]
  have kn : ∀ b o, H b = some o → b < s.heap.objs.size := fun b o e => I.hok.lt e
  refine I.un ⟨fun b u q _ _ _ => keep b u q, fun b u q _ _ _ => ⟨u.slots, keep b u q⟩, fun b u q n _ => ?_, fun b u q _ => ⟨u, keep b u q⟩, fun b xs q => ?_, fun b o u q => ?_, fun b ps q => ⟨#[], ?_⟩⟩ fun b u e => ?_
  · rw [old b (Heap.lt_size q)]; exact n
  · rw [old b (kn b _ q)]; exact q
  · rw [old b (kn b _ q)]; exact q
  · rw [old b (kn b _ q), q]; simp
  · by_cases hS : b = S
    · subst hS
      rw [upd_same] at e
      cases e
      obtain ⟨c, hc⟩ := li
      refine ⟨by rw [List.length_map]; exact len, _, c, ?_, hc⟩
      clear hc tu ge nd nS old len
      induction l with
      | nil => exact .nil
      | cons q r ih => exact .cons rfl ih
    · rw [upd_ne hS] at e
      by_cases hm : b ∈ l.map (·.1)
      · obtain ⟨q, hq, eq⟩ := List.mem_map.mp hm
        subst eq
        rw [tupH_at nd hq] at e
        cases e
        obtain ⟨x, y, r1, r2, ht⟩ := tu q hq
        exact ⟨by show 2 ≤ sizeLine; decide, [x, y], .cons r1 (.cons r2 .nil), ⟨_, ht, rfl, _, rfl⟩⟩
      · rw [tupH_off hm] at e
        refine (I.hok b u e).stay (fun c v _ q => keep c v q) (fun c q => ?_) fun c xs q => ?_
        · rw [old c (kn c _ q)]; exact q
        · rw [old c (kn c _ q)]; exact q
end
end L3

namespace L3
open PySem L2 PySem.Spec PyProof.Rows
def tLzip (K : PySem.W.Frag) (ta : TA) : TE := fun σ H Q => ta σ H fun vs H1 => ∃ a b xs ys, vs = [.ref a, .ref b] ∧ (SqL K H1 a xs ∨ SqT K H1 a xs) ∧ (SqL K H1 b ys ∨ SqT K H1 b ys) ∧
  ∀ (S : Addr) (l : List (Addr × V × V)), (l.map (·.1)).Nodup → S ∉ l.map (·.1) → H1 S = none → (∀ q ∈ l, H1 q.1 = none) → l.map (·.2) = xs.zip ys → Q (.ref S) (upd (tupH H1 l) S (.lst (l.map fun q => V.ref q.1)))
theorem src_of {X : Cx} {pins : List (Addr × Obj)} {σ : L2.St} {H : Hp} {s : Shared} {A : Around} {a : Addr} {xs : List V} (hh : A.handled = none) (I : Inv X pins σ H s) (h : SqL X.K H a xs ∨ SqT X.K H a xs) : ∃ its : List Value, Vals xs its ∧ xs.length ≤ sizeLine ∧ L3N.ZSrc X.prog X.w A a its.toArray s.heap := by
  rcases h with h | h
  · obtain ⟨its, r, p, z⟩ := I.list h
    exact ⟨its, r, z, L3N.src_list hh p.isList⟩
  · obtain ⟨its, r, p, z⟩ := I.tuple h
    exact ⟨its, r, z, L3N.src_tuple hh (show s.heap.IsTuple a its.toArray from p)⟩
theorem pe_lzip {X : Cx} {e1 e2 : Expr} {ta : TA} {p p2 pos pos2 : Pos} (hc : X.calm = true) (hgl : Gl X "list") (hml : X.mg "list" = none) (hgz : Gl X "zip") (hmz : X.mg "zip" = none) (ha : PA X [e1, e2] ta)
    (hs : starEach [e1, e2] X.env = (false, eval e1 X.env) :: starEach [e2] X.env) (hpl : (backTo pos2 (starEach [e2] X.env)).any (·.1) = false)
    (hs1 : starEach [.Call (.Name "zip" p2) [e1, e2] [] pos2] X.env = [(false, eval (.Call (.Name "zip" p2) [e1, e2] [] pos2) X.env)] := by rfl) :
    PE X (.Call (.Name "list" p) [.Call (.Name "zip" p2) [e1, e2] [] pos2] [] pos) (tLzip X.K ta) := by
  refine ⟨fun pins s σ H Q I h => ?_⟩
  refine wpAny_Call_Name_kw (ld_blt I hgl hml PyProof.Rows.boot_list ?_)
  refine PyProof.Rows.callWith_type1 ?_ hs1 rfl
  rw [hs1]
  show wpAny _ _ (spliced ((false, eval (.Call (.Name "zip" p2) [e1, e2] [] pos2) X.env) :: [])) _ _ s
  refine Calls.spliced_cons ?_
  refine wpAny_Call_Name_kw (ld_blt I hgz hmz PyProof.Rows.boot_zip ?_)
  refine PyProof.Rows.callWith_type1 ?_ hs hpl
  refine thn (ha.run pos2 pins s σ H _ I h) fun us s3 ⟨vs, H2, I3, r3, q3⟩ => ?_
  obtain ⟨a, b, xs, ys, rfl, ha', hb', q⟩ := q3
  cases r3 with
  | cons r rr =>
    cases rr with
    | cons r' rr =>
      cases rr
      cases r
      cases r'
      have hh : X.A.in1.in1.in1.handled = none := I3.ok.hd hc
      obtain ⟨its, rv, z1, S1⟩ := src_of hh I3 ha'
      obtain ⟨its2, rv2, z2, S2⟩ := src_of hh I3 hb'
      have l1 := rv.length
      have l2 := rv2.length
      refine wpAny_mono (L3N.zip_list (Q := EP X pins σ Q) (E := X.xe) S1 S2 (by simp only [List.size_toArray]; omega) fun S h' ts tk hS hl ps => ?_) (fun v s4 h4 => Calls.spliced_nil h4) fun _ _ z => z
      simp only [List.size_toArray] at hl
      have hzl : (xs.zip ys).length = ts.length := by rw [List.length_zip]; omega
      have m1 : (ts.zip (xs.zip ys)).map (·.1) = ts := List.map_fst_zip (by omega)
      have m2 : (ts.zip (xs.zip ys)).map (·.2) = xs.zip ys := List.map_snd_zip (by omega)
      have far : ∀ t ∈ ts, t ≠ S ∧ s3.heap.objs.size ≤ t := fun t ht => by
        obtain ⟨j, hj⟩ := List.getElem?_of_mem ht
        exact (ps.tup j t hj).2
      have ge : ∀ q ∈ ts.zip (xs.zip ys), s3.heap.objs.size ≤ q.1 := fun q hq => (far _ (List.of_mem_zip hq).1).2
      have nS : S ∉ (ts.zip (xs.zip ys)).map (·.1) := by rw [m1]; exact fun m => (far S m).1 rfl
      refine ⟨.ref S, _, inv_pairs (l := ts.zip (xs.zip ys)) I3 (by rw [m1]; exact ps.nod) ge hS nS ps.keep (fun q hq => ?_) ?_ (by rw [List.length_zip]; omega), rfl, q S _ (by rw [m1]; exact ps.nod) nS (I3.hok.fresh hS) (fun q hq => I3.hok.fresh (ge q hq)) m2⟩
      · obtain ⟨j, hj⟩ := List.getElem?_of_mem hq
        obtain ⟨t, x, y⟩ := q
        rw [List.getElem?_zip_eq_some] at hj
        obtain ⟨j1, j2⟩ := hj
        rw [List.getElem?_zip_eq_some] at j2
        obtain ⟨⟨x', y', e1, e2, e3⟩, _⟩ := ps.tup j t j1
        obtain ⟨u, hu, ru⟩ := rv.get j2.1
        obtain ⟨u2, hu2, ru2⟩ := rv2.get j2.2
        simp only [List.getElem?_toArray] at e1 e2
        rw [hu] at e1
        rw [hu2] at e2
        cases e1
        cases e2
        exact ⟨_, _, ru, ru2, e3⟩
      · obtain ⟨c, hc'⟩ := ps.hS
        refine ⟨c, ?_⟩
        have e : ((ts.zip (xs.zip ys)).map fun q => Value.ref q.1) = ts.map Value.ref := by
          have := congrArg (List.map Value.ref) m1
          rw [List.map_map] at this
          exact this
        rw [e]
        exact hc'
section
variable {K : PySem.W.Frag} {cl : ClsT} {H : Hp} {C : CH}
theorem rel_tups (R : Rel K cl H C) : ∀ {l : List (Addr × V × V)}, (l.map (·.1)).Nodup → (∀ q ∈ l, H q.1 = none) → Rel K cl (tupH H l) C ∧ Keep H C (tupH H l) C
  | [], _, _ => ⟨R, Keep.refl⟩
  | q :: r, nd, hl => by
    simp only [List.map_cons, List.nodup_cons] at nd
    obtain ⟨R', k'⟩ := rel_tups R nd.2 fun p hp => hl p (List.mem_cons_of_mem _ hp)
    have hn : tupH H r q.1 = none := by rw [tupH_off nd.1]; exact hl q List.mem_cons_self
    exact ⟨R'.newH hn _, k'.trans (keep_newH hn _ R')⟩
theorem rep_zip : ∀ {l : List (Addr × V × V)} {us ws : List V} {xs ys : List D}, l.map (·.2) = us.zip ws → RepL K H xs us → RepL K H ys ws → (∀ q ∈ l, H q.1 = some (.tup [q.2.1, q.2.2])) → RepL K H ((xs.zip ys).map fun q => D.tup [q.1, q.2]) (l.map fun q => V.ref q.1)
  | [], us, ws, xs, ys, e, r1, r2, _ => by
    cases r1 with
    | nil => exact .nil
    | cons _ _ => cases r2 with
      | nil => exact .nil
      | cons _ _ => simp at e
  | q :: r, us, ws, xs, ys, e, r1, r2, h => by
    cases r1 with
    | nil => simp at e
    | cons a1 t1 => cases r2 with
      | nil => simp at e
      | cons a2 t2 =>
        simp only [List.map_cons, List.zip_cons_cons, List.cons.injEq] at e
        have hq := h q List.mem_cons_self
        rw [e.1] at hq
        refine .cons (.tup (.inl (.inl hq)) (.cons a1 (.cons a2 .nil))) (rep_zip e.2 t1 t2 fun p hp => h p (List.mem_cons_of_mem _ hp))
end
section
variable {X : Cx} {cl : ClsT} {H0 : Hp} {C0 : CH} {ca : CTA}
/-- list(zip(x, y)) -/
def cLzip (a : CTA) : CTE := fun σ C Q => a σ C fun ds C1 => ∃ x y xs ys, ds = [x, y] ∧ SqC C1 x xs ∧ SqC C1 y ys ∧ ∀ l, C1 l = none → Q (.ref l) (cup C1 l (.lst ((xs.zip ys).map fun q => D.tup [q.1, q.2])))
theorem cpe_lzip {e1 e2 : Expr} {p p2 pos pos2 : Pos} (hc : X.calm = true) (hgl : Gl X "list") (hml : X.mg "list" = none) (hgz : Gl X "zip") (hmz : X.mg "zip" = none) (ha : CPA X cl H0 C0 [e1, e2] ca) (h1 : notStar e1 = true) (h2 : notStar e2 = true) :
    CPE X cl H0 C0 (.Call (.Name "list" p) [.Call (.Name "zip" p2) [e1, e2] [] pos2] [] pos) (cLzip ca) :=
  (pe_lzip hc hgl hml hgz hmz ha (star_of h1) (star_any (by simp [h2]))).imp fun σ H Q ⟨σc, C, Qc, S, h, hq⟩ => ⟨σc, C, _, S, h, fun ds C1 vs H1 ⟨x, y, xs, ys, eds, hx, hy, q⟩ rs R1 k1 => by
    subst eds
    cases rs with
    | cons r1 rr =>
      cases rr with
      | cons r2 rr =>
        cases rr
        obtain ⟨a, us, rfl, sa, ra⟩ := R1.sq hx r1
        obtain ⟨b, ws, rfl, sb, rb⟩ := R1.sq hy r2
        refine ⟨a, b, us, ws, rfl, sa, sb, fun S' l nd nS hS hl hz => ?_⟩
        obtain ⟨R2, k2⟩ := rel_tups R1 nd hl
        have hn : tupH H1 l S' = none := by rw [tupH_off nS]; exact hS
        exact ((hq.from_ k1).from_ k2).lst (rep_zip hz (ra.keep R1 k2) (rb.keep R1 k2) fun p hp => tupH_at nd hp) R2 hn (q S' (free_of R1 hS))⟩
end
end L3

namespace L3
open PySem L2 PySem.Spec PyProof.Rows
section
variable {X : Cx} {cl : ClsT} {H0 : Hp} {C0 : CH} {ca cb : CTE} {a b : Expr} {pos : Pos} {Ca fa : Addr} {fd : FuncData} {ps : List Str} {k c np : Nat} {sem : SemF} {g : List Src}
theorem cpe_eqO (hc : cl c = some Ca) (O : OwnE X.K Ca fa) (F : FnOkG X.prog X.w X.K X.mg X.base (L2.CX X.prog X.w) k fa fd ps (spC X.K cl np sem)) (hr : Room (k + 1) X.A) (hg : X.A.guards = some []) (hb : BindsC X.K fd ps 2 [] g) (hl : g.length = np) (ha : CPE X cl H0 C0 a ca) (hb' : CPE X cl H0 C0 b cb) (hm : behindInMarks .Eq b = false) :
    CPE X cl H0 C0 (.Compare a [.Eq] [b] pos) (cBin (oEqO c sem g id) ca cb) := by
  obtain ⟨gv, gV, b1, b2, b3⟩ := hb
  exact cpe_cmp (op_eqO O F (hr.mono (Nat.le_succ _)) hg (fun s us hk hl => by have := b1 s us [] hk hl rfl; simpa using this) b2) (lk_eqO hc (by simp only [gath, List.length_map]; exact hl) b3) ha hb' hm
theorem cpe_neO (hc : cl c = some Ca) (O : OwnE X.K Ca fa) (F : FnOkG X.prog X.w X.K X.mg X.base (L2.CX X.prog X.w) k fa fd ps (spC X.K cl np sem)) (hr : Room (k + 1) X.A) (hg : X.A.guards = some []) (hb : BindsC X.K fd ps 2 [] g) (hl : g.length = np) (ha : CPE X cl H0 C0 a ca) (hb' : CPE X cl H0 C0 b cb) (hm : behindInMarks .NotEq b = false) :
    CPE X cl H0 C0 (.Compare a [.NotEq] [b] pos) (cBin (oEqO c sem g not) ca cb) := by
  obtain ⟨gv, gV, b1, b2, b3⟩ := hb
  exact cpe_cmp (op_neO O F hr hg (fun s us hk hl => by have := b1 s us [] hk hl rfl; simpa using this) b2) (lk_eqO hc (by simp only [gath, List.length_map]; exact hl) b3) ha hb' hm
theorem cpt_eqO (hc : cl c = some Ca) (O : OwnE X.K Ca fa) (F : FnOkG X.prog X.w X.K X.mg X.base (L2.CX X.prog X.w) k fa fd ps (spC X.K cl np sem)) (hr : Room (k + 1) X.A) (hg : X.A.guards = some []) (hb : BindsC X.K fd ps 2 [] g) (hl : g.length = np) (ha : CPE X cl H0 C0 a ca) (hb' : CPE X cl H0 C0 b cb) (hm : behindInMarks .Eq b = false) :
    CPT X cl H0 C0 (.Compare a [.Eq] [b] pos) (cTst (cBin (oEqO c sem g id) ca cb)) := by
  obtain ⟨gv, gV, b1, b2, b3⟩ := hb
  exact cpt_cmp (op_eqO O F (hr.mono (Nat.le_succ _)) hg (fun s us hk hl => by have := b1 s us [] hk hl rfl; simpa using this) b2) (lk_eqO hc (by simp only [gath, List.length_map]; exact hl) b3) ha hb' hm
theorem cpt_neO (hc : cl c = some Ca) (O : OwnE X.K Ca fa) (F : FnOkG X.prog X.w X.K X.mg X.base (L2.CX X.prog X.w) k fa fd ps (spC X.K cl np sem)) (hr : Room (k + 1) X.A) (hg : X.A.guards = some []) (hb : BindsC X.K fd ps 2 [] g) (hl : g.length = np) (ha : CPE X cl H0 C0 a ca) (hb' : CPE X cl H0 C0 b cb) (hm : behindInMarks .NotEq b = false) :
    CPT X cl H0 C0 (.Compare a [.NotEq] [b] pos) (cTst (cBin (oEqO c sem g not) ca cb)) := by
  obtain ⟨gv, gV, b1, b2, b3⟩ := hb
  exact cpt_cmp (op_neO O F hr hg (fun s us hk hl => by have := b1 s us [] hk hl rfl; simpa using this) b2) (lk_eqO hc (by simp only [gath, List.length_map]; exact hl) b3) ha hb' hm
/-! len of an own instance -/
structure OwnL (K : PySem.W.Frag) (Ca f : Addr) : Prop where
  len : PySem.W.findIn K (.ref Ca) "__len__" = some (some (.ref f))
  fn : PySem.W.isFn K (.ref f) = true
def rLenO (Ca : Addr) (sp : Sp) (gV : List V → List V → List V) : List V → Hp → VK → Prop := fun xs H Q => ∃ a dx fs, xs = [.ref a] ∧ H a = some (.ins Ca dx fs) ∧ sp (gV [.ref a] []) H (fun v H' => ∃ n : Int, v = .int n ∧ 0 ≤ n ∧ n < 2 ^ 63 ∧ Q (.int n) H') fun _ _ _ => False
theorem call_lenO {sp : Sp} {gV : List V → List V → List V} {gv : List Value → List Value → List Value} (O : OwnL X.K Ca fa) (F : FnOkG X.prog X.w X.K X.mg X.base (L2.CX X.prog X.w) k fa fd ps sp) (hr : Room (k + 1) X.A) (hg : X.A.guards = some []) (hb : ∀ (s : Shared) (us : List Value), X.K.In s.heap → us.length = 1 → BindsTo s fd ⟨us, []⟩ (ps.zip (gv us [])))
    (hv : ∀ {vs us zs ws}, Vals vs us → Vals zs ws → Vals (gV vs zs) (gv us ws)) : CallR X (.builtin "len") (rLenO Ca sp gV) := by
  intro pins s σ H xs us Q I rs ⟨a, dx, fs, ex, ha, hs⟩
  subst ex
  cases rs with
  | cons r rr =>
    cases rr
    cases r
    obtain ⟨mA, J, _⟩ := ins_get I.hok ha
    obtain ⟨od, J, _⟩ := J.look
    obtain ⟨m, hF⟩ := I.fr
    refine PySem.W.len_K hF I.ok.mod.kin J O.len O.fn ?_
    have e0 : Env0 X.prog X.w X.K X.mg X.base X.A.in1 X.stack s H := by
      have e := I.env0
      exact ⟨e.frames, e.mod, e.bs, e.bsz, e.funs, e.frf, e.hok, e.bare⟩
    refine wpAny_call (codeAny_mono (F.run X.A.in1 X.stack s H ⟨[.ref a], []⟩ _ _ _ (fun _ _ _ => False) hr.in1 hg e0 (hb s _ I.kIn rfl) (hv (.cons (show RelV (V.ref a) (Value.ref a) from rfl) .nil) .nil) hs) fun r s' hq => ?_)
    match r, hq with
    | .error e, hq => obtain ⟨_, _, _, _, _, _, _, _, _, _, _, _, z⟩ := hq; exact z.elim
    | .ok (.ret u), hq =>
      obtain ⟨v, H', I', rv, n, ev, n0, n1, q⟩ := I.after hq
      subst ev
      obtain ⟨t, rfl⟩ := rv
      exact ⟨⟨n0, n1⟩, .int n, H', I'.tok _, ⟨_, rfl⟩, q⟩
def oLenO (c : Nat) (sem : SemF) (g : List Src) : OL := fun xs C Q => ∃ p fs, xs = [.ref p] ∧ C p = some (.ins c fs) ∧ sem (gath g [.ref p] []) C (fun d C' => ∃ n : Int, d = .int n ∧ 0 ≤ n ∧ n < 2 ^ 63 ∧ Q (.int n) C') fun _ _ => False
theorem lk_lenO {gV : List V → List V → List V} (hc : cl c = some Ca) (hl : g.length = np) (b3 : ∀ H ds vs es zs, ds.length = 1 → es.length = 0 → RepL X.K H ds vs → RepL X.K H es zs → RepL X.K H (gath g ds es) (gV vs zs)) : LkL X.K cl (rLenO Ca (spC X.K cl np sem) gV) (oLenO c sem g) :=
  fun H C ds vs Q Qc rs R ⟨p, fs, e1, h1, h3⟩ hq => by
    subst e1
    cases rs with
    | cons r rr =>
      cases rr
      cases r
      obtain ⟨Ca1, dx, fv, hc1, g1, _⟩ := R p _ h1
      rw [hc] at hc1
      cases hc1
      refine ⟨p, dx, fv, rfl, g1, _, C, _, _, b3 H [.ref p] _ [] _ rfl rfl (.cons (.ref p) .nil) .nil, ?_, R, h3, ?_, fun _ _ _ _ _ z => z.elim⟩
      · simp only [gath, List.length_map]; exact hl
      · intro d' C' v' H' ⟨n, et, n0, n1, qt⟩ rv R' kk
        subst et
        cases rv
        exact ⟨n, rfl, n0, n1, hq _ _ _ _ qt (.int _) R' kk⟩
theorem cpe_lenO {p : Pos} {cs : CTA} (hc : cl c = some Ca) (O : OwnL X.K Ca fa) (F : FnOkG X.prog X.w X.K X.mg X.base (L2.CX X.prog X.w) k fa fd ps (spC X.K cl np sem)) (hr : Room (k + 1) X.A) (hg : X.A.guards = some []) (hb : BindsC X.K fd ps 1 [] g) (hl : g.length = np) (hgl : Gl X "len") (hml : X.mg "len" = none) (ha : CPA X cl H0 C0 [a] cs) (h1 : notStar a = true) :
    CPE X cl H0 C0 (.Call (.Name "len" p) [a] [] pos) (cList (oLenO c sem g) cs) := by
  obtain ⟨gv, gV, b1, b2, b3⟩ := hb
  exact cpe_callB (call_lenO O F hr hg (fun s us hk hl => by have := b1 s us [] hk hl rfl; simpa using this) b2) (lk_lenO hc hl b3) hgl hml (by decide +kernel) ha (by decide) (by decide +kernel) (star_of h1) rfl
/-- raise X(e) of an own class without __init__ -/
def sRaiseE (c : Nat) (ex : Kxs) (a : CTE) : CTS := fun _ σ C => a σ C fun _ C1 => ex ⟨c, []⟩ σ C1
theorem cps_raiseE {ex : Kxs} {bmB : List Value} {B newId initId : String} {x : Str} {p pos' : Pos} (hc : cl c = some Ca) (F : ExcBaseFacts B newId initId bmB) (q : PySem.W.excIn X.K Ca bmB newId = true) (gC : X.mg x = some (.ref Ca)) (kC : PySem.W.keepIn X.K (.ref Ca) = true) (r : Raises X (.ref Ca)) (hg : Gl X x)
    (hdb : (x == ("__debug__" : Str)) = false) (hcalm : X.calm = true) (tk : Takes X (WC X.K cl H0 C0 ex)) (ha : CPE X cl H0 C0 a ca) (h1 : notStar a = true) : CPS X cl H0 C0 (.Raise (some (.Call (.Name x p) [a] [] pos')) none pos) (sRaiseE c ex ca) :=
  (ps_raise hcalm tk (SkE.pmk_own1 F q gC kC r hg ha (star_of h1) hdb)).imp fun D σ H ⟨σc, C, Dc, S, h, hq⟩ => ⟨σc, C, _, S, h, fun d C1 v H1 h1 rv R1 k1 => ⟨_, σc, C1, h1, ⟨Ca, hc, rfl, .inl ⟨rfl, rfl⟩⟩, S.step k1 R1⟩⟩
end
end L3

set_option maxHeartbeats 1000000
/-! enumerate(list or tuple), range of three, reversed(list or tuple), as what a loop walks -/
namespace L3E
open PySem PySem.Spec PyProof.Rows L2
theorem meets_enum1 {v : Value} {o : Obj} {H : Heap → Prop} (B : Begins v o H) :
    Meets (Builtin.«enumerate.__new__» ⟨[.type "enumerate", v], []⟩) (fun _ R s => H s.heap ∧
      R (.ok (.ret (.ref (s.heap.push o).objs.size))) { s with heap := (s.heap.push o).push { cls := .type "enumerate", data := .fields #[.none, .bool false, .ref s.heap.objs.size, rawInt 0, .none, .none] } }) :=
  .of_wp fun prog w A R s h => by
    obtain ⟨hp, g, d, tk, os⟩ := s; obtain ⟨h1, h⟩ := h
    have hsub := sub_enumerate
    have q1 : ∀ {A' : Around} {E : Value → Shared → Prop} {Q : Value → Shared → Prop}, Q (.ref hp.objs.size) ⟨hp.push o, g, d, tk, os⟩ → wpAny (model prog w) A' (pyIter v) Q E ⟨hp, g, d, tk, os⟩ :=
      fun q => B.iter prog w _ _ ⟨hp, g, d, tk, os⟩ _ h1 q
    wp_walk using q1
    refine wpAny_stack_any fun st => wpAny_pure ?_
    split
    · rename_i c _ _ _ _ _
      cases (c == Value.type "enumerate")
      · wp_walk using q1
        exact ⟨_, rfl, h⟩
      · wp_walk using q1
        exact ⟨_, rfl, h⟩
    · wp_walk using q1
      exact ⟨_, rfl, h⟩
section
variable {prog : Program} {w : World} {A : Around} {E : Value → Shared → Prop} {s : Shared}
theorem enum_begins1 {v : Value} {o : Obj} {H : Heap → Prop} {Q : Value → Shared → Prop} (B : Begins v o H) (h1 : H s.heap)
    (h : ∀ h', IsEnum h' (s.heap.objs.size + 1) s.heap.objs.size 0 .none → h'.get? s.heap.objs.size = some o → h'.objs.size = s.heap.objs.size + 2 →
      (∀ b o, s.heap.get? b = some o → h'.get? b = some o) → Q (.ref (s.heap.objs.size + 1)) { s with heap := h' }) :
    wpAny (model prog w) A (call (.type "enumerate") [v]) Q E s := by
  refine callType_new F.called_enumerate (by decide) (F.typeCall_enumerate_1 _) (F.newCall_enumerate_1 _) (fun obj => F.args_object_init_2 obj _) F.entry_enumerate_new
    (meets_enum1 B) ⟨h1, ?_⟩
  have hz : (s.heap.push o).objs.size = s.heap.objs.size + 1 := Heap.size_push ..
  show _ ∧ _
  rw [hz]
  have he : IsEnum ((s.heap.push o).push { cls := .type "enumerate", data := .fields #[.none, .bool false, .ref s.heap.objs.size, rawInt 0, .none, .none] }) (s.heap.objs.size + 1) s.heap.objs.size 0 .none := by
    have := Heap.get?_push_size (s.heap.push o) (o := { cls := .type "enumerate", data := .fields #[.none, .bool false, .ref s.heap.objs.size, rawInt 0, .none, .none] }) rfl
    rw [hz] at this; exact this
  refine ⟨⟨_, he, rfl⟩, h _ he (Heap.get?_push_of_some _ (Heap.get?_push_size _ B.free)) (by rw [Heap.size_push, hz]) fun b o x => Heap.get?_push_of_some _ (Heap.get?_push_of_some _ x)⟩
end
/-- the tuple at a, each item in a new pair -/
def IteT (K : PySem.W.Frag) (a : Addr) : It :=
  ⟨fun i H => ∃ (xs : List V) (x : V), SqT K H a xs ∧ xs[i]? = some x, fun i H v H' => ∃ T x, v = .ref T ∧ H T = none ∧ H' = upd H T (.tup [.int (i : Nat), x]) ∧ ∀ xs, SqT K H a xs → xs[i]? = some x, fun i H => ∃ xs : List V, SqT K H a xs ∧ xs.length ≤ i⟩
theorem turn_enumT {P : Program} {w : World} {K : PySem.W.Frag} {elts : List Expr} {kk : Nat} {tpos : Pos} (a e it : Addr) :
    Turn P w K (.Tuple elts kk tpos) (IteT K a) [e, it] e (fun i h => (∃ old, IsEnum h e it ((i : Nat) : Int) old) ∧ h.IsTupleIter it a i ∧ e ≠ it ∧ a ≠ it ∧ a ≠ e ∧ i ≤ sizeLine) where
  mem := by simp
  obj := fun i h st b hb => by
    obtain ⟨⟨old, he⟩, ⟨o, ho, hc, hd⟩, _⟩ := st
    have e' : b = e ∨ b = it := by simpa using hb
    rcases e' with z | z
    · rw [z]; exact ⟨_, he, fun v q => nomatch q⟩
    · rw [z]; exact ⟨o, ho, fun v q => by rw [hd] at q; cases q⟩
  keep := fun i h h' st k => let ⟨⟨old, he⟩, hi, hne⟩ := st; ⟨⟨old, k e (by simp) _ he⟩, hi.at fun o q => k it (by simp) o q, hne⟩
  item := by
    intro X hP hw hK hc i pins s σ H E I hf st hg
    subst hP hw hK
    obtain ⟨⟨old, he⟩, hit, hne, hat, hae, hi⟩ := st
    obtain ⟨xs, x, hq, hx⟩ := hg
    obtain ⟨its, rv, p, hz⟩ := I.tuple hq
    obtain ⟨u, hu, ru⟩ := rv.get hx
    have hel : e < s.heap.objs.size := Heap.lt_size he
    have hil : it < s.heap.objs.size := by obtain ⟨_, q, _⟩ := hit; exact Heap.lt_size q
    have hil' : i < its.length := (List.getElem?_eq_some_iff.mp hu).1
    refine wpAny_pyNext_enum_itemD (n := its.toArray.size) (Draws.tuple (A := X.A.in1) (I.ok.hd hc) it a hat its.toArray) he ⟨hit, p⟩ (by simpa using hil') hne (by simp [hne, Ne.symm hae]) fun y h' tk hy ho hit' hT hsz hk => ?_
    have hyu : y = u := by
      have hy' : its[i]? = some y := by simpa using hy
      rw [hu] at hy'; cases hy'; rfl
    subst hyu
    refine ⟨_, rfl, wpAny_letOwnedTupleGo_enum (s := { s with heap := h', toks := tk + 1 }) ho fun h'' he' sb => ?_⟩
    have hT2 : h''.get? s.heap.objs.size = some { cls := .type "tuple", data := .seq #[.int i tk, y] } := (sb.2 _ (Nat.ne_of_gt hel)).trans hT
    have new : ObjOk X.prog X.w (upd H s.heap.objs.size (.tup [.int (i : Nat), x])) h'' s.heap.objs.size (.tup [.int (i : Nat), x]) :=
      ⟨by show 2 ≤ sizeLine; decide, [.int i tk, y], .cons ⟨_, rfl⟩ (.cons ru .nil), ⟨_, hT2, rfl, _, rfl⟩⟩
    have I1 : Inv X pins σ (upd H s.heap.objs.size (.tup [.int (i : Nat), x])) { s with heap := h'', toks := tk + 1 } :=
      I.turnedNew (ch := [e, it]) (fun b ob hb q => (sb.2 b (fun z => hb (by simp [z]))).trans (hk b ob (fun z => hb (by simp [z])) (fun z => hb (by simp [z])) q)) hf (Nat.le_refl _) new
    have hlen := rv.length
    refine ⟨.ref s.heap.objs.size, _, I1, rfl, ⟨_, x, rfl, I.hok.fresh (Nat.le_refl _), rfl, fun ys hy => by rw [I.tuple_inj hy hq]; exact hx⟩, ⟨⟨y, ?_⟩, hit'.1.at fun o q => (sb.2 it (Ne.symm hne)).trans q, hne, hat, hae, by omega⟩, fun b hb => ?_⟩
    · have e1 : ((i + 1 : Nat) : Int) = (i : Int) + 1 := by omega
      rw [e1]; exact he'
    · have hb' : b < s.heap.objs.size := by
        have e' : b = e ∨ b = it := by simpa using hb
        rcases e' with z | z
        · rw [z]; exact hel
        · rw [z]; exact hil
      rw [upd_ne (Nat.ne_of_lt hb')]
      exact (hf b hb).1
  done := by
    intro X hP hw hK hc i pins s σ H E I hf st hg
    subst hP hw hK
    obtain ⟨⟨old, he⟩, hit, hne, hat, hae, hi⟩ := st
    obtain ⟨xs, hq, hx⟩ := hg
    obtain ⟨its, rv, p, hz⟩ := I.tuple hq
    obtain ⟨f0, f1, f2, f3, f4, f5⟩ := hf it (by simp)
    have hl := rv.length
    have D : Draws X.prog X.w X.A.in1 it [it, a] i (fun _ _ => True) (fun j h => j = i ∧ h.IsTupleIter it a i ∧ h.IsTuple a its.toArray) :=
      { live := fun _ _ st => let ⟨_, ⟨o, ho, _⟩, _⟩ := st; ⟨o, ho⟩
        frame := fun _ _ _ st hk => ⟨st.1, st.2.1.at fun o e => hk it (by simp) o e, st.2.2.at fun o e => hk a (by simp) o e⟩
        item := fun j s' Q E' hj st' hQ => absurd st'.1 (Nat.ne_of_lt hj)
        done := fun s' Q E' st' hE => PySem.wpAny_nextOf_tuple_end (I.ok.hd hc) st'.2.1 st'.2.2 (by simp; omega) hE }
    exact wpAny_pyNext_enum_endD D he ⟨rfl, hit, p⟩ fun h' eb => ⟨rfl, I.turned (t' := s.toks) (fun b o hb q => eb b o hb q) f0 f1 f3 f4 f5⟩
  self := fun A i s Q E st h => let ⟨⟨_, he⟩, _⟩ := st; wpAny_pyIter_enum he h
def iEnumA (K : PySem.W.Frag) (ta : TA) : TI := fun σ H R => ta σ H fun vs H1 => ∃ a xs, vs = [.ref a] ∧ ((SqL K H1 a xs ∧ R (Ite K a) H1) ∨ (SqT K H1 a xs ∧ R (IteT K a) H1))
theorem pi_enumA {X : Cx} {e : Expr} {ta : TA} {p pos tpos : Pos} {elts : List Expr} {kk : Nat} (hg : Gl X "enumerate") (hm : X.mg "enumerate" = none) (ha : PA X [e] ta) (hs : starEach [e] X.env = [(false, eval e X.env)] := by rfl) :
    PI X (.Tuple elts kk tpos) (.Call (.Name "enumerate" p) [e] [] pos) (iEnumA X.K ta) := by
  refine ⟨fun pins s σ H R I h => ?_⟩
  refine Call_ (ld_blt I hg hm boot_enumerate (PyProof.Rows.callWith_type1 (thn (ha.run pos pins s σ H _ I h) fun us s1 ⟨vs, H1, I1, r1, q1⟩ => ?_) hs rfl))
  obtain ⟨a, xs, ex, hq⟩ := q1
  subst ex
  cases r1 with
  | cons r rr =>
    cases rr
    cases r
    have fp : ∀ b ∈ [s1.heap.objs.size + 1, s1.heap.objs.size], FpOk X pins H1 b := fun b hb => by
      have e' : b = s1.heap.objs.size + 1 ∨ b = s1.heap.objs.size := by simpa using hb
      have hle : s1.heap.objs.size ≤ b := by
        rcases e' with z | z
        · rw [z]; exact Nat.le_add_right _ _
        · rw [z]; exact Nat.le_refl _
      exact I1.fpOk hle (I1.hok.fresh hle)
    rcases hq with ⟨hq, q⟩ | ⟨hq, q⟩
    · obtain ⟨its, rv, p', hz⟩ := I1.list hq
      refine call_enumerate_list p'.isList fun h' he hit hsz hk => wpAny_pyIter_enum he ?_
      have I2 : Inv X pins σ H1 { s1 with heap := h' } := I1.kept (t' := s1.toks) hk
      exact ⟨s1.heap.objs.size + 1, [s1.heap.objs.size + 1, s1.heap.objs.size], _, _, H1, rfl, I2, turn_enum a (s1.heap.objs.size + 1) s1.heap.objs.size, ⟨⟨.none, he⟩, hit, Nat.succ_ne_self _⟩, fp, q⟩
    · obtain ⟨its, rv, p', hz⟩ := I1.tuple hq
      have p2 : s1.heap.IsTuple a its.toArray := p'
      have hal : a < s1.heap.objs.size := by obtain ⟨_, z, _⟩ := p2; exact Heap.lt_size z
      refine enum_begins1 (begins_tuple a its.toArray) p2 fun h' he hit hsz hk => wpAny_pyIter_enum he ?_
      have I2 : Inv X pins σ H1 { s1 with heap := h' } := I1.kept (t' := s1.toks) hk
      exact ⟨s1.heap.objs.size + 1, [s1.heap.objs.size + 1, s1.heap.objs.size], _, _, H1, rfl, I2, turn_enumT a (s1.heap.objs.size + 1) s1.heap.objs.size,
        ⟨⟨.none, he⟩, ⟨_, hit, rfl, rfl⟩, Nat.succ_ne_self _, Nat.ne_of_lt hal, Nat.ne_of_lt (Nat.lt_succ_of_lt hal), Nat.zero_le _⟩, fp, q⟩
end L3E
namespace L3
open PySem PySem.Spec PyProof.Rows L2
section
variable {X : Cx} {cl : ClsT} {H0 : Hp} {C0 : CH} {pos : Pos}
/-- the items with their numbers -/
def enuD (ds : List D) : List D := ds.zipIdx.map fun p => .tup [.int (p.2 : Nat), p.1]
theorem enuD_at {ds : List D} {i : Nat} {d : D} (h : (enuD ds)[i]? = some d) : ∃ x, ds[i]? = some x ∧ d = .tup [.int (i : Nat), x] := by
  unfold enuD at h
  rw [List.getElem?_map, List.getElem?_zipIdx] at h
  cases e : ds[i]? with
  | none => rw [e] at h; cases h
  | some x => rw [e] at h; simp at h; exact ⟨x, rfl, h.symm⟩
theorem enuD_len (ds : List D) : (enuD ds).length = ds.length := by simp [enuD]
def iEnu (a : CTE) : CTI := fun σ C R => a σ C fun d C1 => ∃ ds, ((d = .tup ds ∨ d = .rls ds) ∧ R (enuD ds) (fun _ => True) C1) ∨ (∃ p, d = .ref p ∧ LsC C1 p ds ∧ R (enuD ds) (fun C => LsC C p ds) C1)
def iRvs (a : CTE) : CTI := fun σ C R => a σ C fun d C1 => ∃ ds, ((d = .tup ds ∨ d = .rls ds) ∧ R ds.reverse (fun _ => True) C1) ∨ (∃ p, d = .ref p ∧ LsC C1 p ds ∧ R ds.reverse (fun C => LsC C p ds) C1)
def stpD (i c : Int) (n : Nat) : List D := (List.range n).map fun (k : Nat) => .int (i + k * c)
def iRg3 (a : CTA) : CTI := fun σ C R => a σ C fun ds C1 => ∃ (i j c : Int) (n : Nat), ds = [.int i, .int j, .int c] ∧ RgC i j c n ∧ R (stpD i c n) (fun _ => True) C1
theorem enu_yld {K : PySem.W.Frag} {cl : ClsT} {H' H'' : Hp} {C' : CH} {T : Addr} {i : Nat} {y : V} {x : D} (R' : Rel K cl H' C') (hT : H' T = none) (e : H'' = upd H' T (.tup [.int (i : Nat), y])) (r : Rep K H' x y) :
    Rep K H'' (.tup [.int (i : Nat), x]) (.ref T) ∧ Rel K cl H'' C' ∧ Keep H' C' H'' C' := by
  subst e
  exact ⟨.tup (.inl (.inl upd_same)) (.cons (.int _) (.cons (r.keep R' (keep_newH hT _ R')) .nil)), R'.newH hT _, keep_newH hT _ R'⟩
theorem itOk_enuT {K : PySem.W.Frag} {a : Addr} {ds : List D} {vs : List V} {H : Hp} {C : CH} (s : SqT K H a vs) (r : RepL K H ds vs) (R : Rel K cl H C) : ItOk K cl H C (L3E.IteT K a) (enuD ds) (fun _ => True) where
  go := fun i H' C' k R' _ hi => by
    rw [enuD_len] at hi
    obtain ⟨v, e, _⟩ := r.get (List.getElem?_eq_getElem hi)
    exact ⟨vs, v, SqT.keep R k s, e⟩
  yld := fun i H' C' x H'' k R' _ ⟨T, y, ev, hT, eH, hy⟩ d hd => by
    obtain ⟨x0, hx0, rfl⟩ := enuD_at hd
    obtain ⟨v, e, rv⟩ := r.get hx0
    have := hy vs (SqT.keep R k s)
    rw [e] at this; cases this
    subst ev
    exact enu_yld R' hT eH (rv.keep R k)
  stop := fun i H' C' k R' _ hi => ⟨vs, SqT.keep R k s, by rw [← r.length, ← enuD_len]; exact hi⟩
theorem itOk_enuR {X : Cx} {H : Hp} {C : CH} {a : Addr} {ds : List D} {vs : List V} (q : RlS X.K H a vs) (r : RepL X.K H ds vs) (R : Rel X.K cl H C) : ItOk X.K cl H C (Ite X.K a) (enuD ds) (fun _ => True) where
  go := fun i H' C' k R' _ hi => by
    rw [enuD_len] at hi
    obtain ⟨v, e, _⟩ := r.get (List.getElem?_eq_getElem hi)
    exact ⟨vs, v, (q.keep R k).sq, e⟩
  yld := fun i H' C' x H'' k R' _ ⟨T, y, ev, hT, eH, hy⟩ d hd => by
    obtain ⟨x0, hx0, rfl⟩ := enuD_at hd
    obtain ⟨v, e, rv⟩ := r.get hx0
    have := hy vs (q.keep R k).sq
    rw [e] at this; cases this
    subst ev
    exact enu_yld R' hT eH (rv.keep R k)
  stop := fun i H' C' k R' _ hi => ⟨vs, (q.keep R k).sq, by rw [← r.length, ← enuD_len]; exact hi⟩
theorem itOk_enuL {K : PySem.W.Frag} {p : Addr} {ds : List D} {H : Hp} {C : CH} : ItOk K cl H C (Ite K p) (enuD ds) (fun C => LsC C p ds) where
  go := fun i H' C' k R' hG hi => by
    rw [enuD_len] at hi
    obtain ⟨vs, s, r⟩ := R'.ls hG
    obtain ⟨v, e, _⟩ := r.get (List.getElem?_eq_getElem hi)
    exact ⟨vs, v, s, e⟩
  yld := fun i H' C' x H'' k R' hG ⟨T, y, ev, hT, eH, hy⟩ d hd => by
    obtain ⟨x0, hx0, rfl⟩ := enuD_at hd
    obtain ⟨vs, s, r⟩ := R'.ls hG
    obtain ⟨v, e, rv⟩ := r.get hx0
    have := hy vs s
    rw [e] at this; cases this
    subst ev
    exact enu_yld R' hT eH rv
  stop := fun i H' C' k R' hG hi => by
    obtain ⟨vs, s, r⟩ := R'.ls hG
    exact ⟨vs, s, by rw [← r.length, ← enuD_len]; exact hi⟩
def kEnu (R : List D → (CH → Prop) → CH → Prop) : List D → CH → Prop := fun ds C1 => match ds with
  | [d] => ∃ ys, ((d = .tup ys ∨ d = .rls ys) ∧ R (enuD ys) (fun _ => True) C1) ∨ (∃ p, d = .ref p ∧ LsC C1 p ys ∧ R (enuD ys) (fun C => LsC C p ys) C1)
  | _ => False
theorem cpi_enu {e : Expr} {ca : CTE} {p cpos tpos : Pos} {elts : List Expr} {kk : Nat} (hg : Gl X "enumerate") (hm : X.mg "enumerate" = none) (he : CPE X cl H0 C0 e ca) (hs : starEach [e] X.env = [(false, eval e X.env)]) :
    CPI X cl H0 C0 (.Tuple elts kk tpos) (.Call (.Name "enumerate" p) [e] [] cpos) (iEnu ca) :=
  (L3E.pi_enumA hg hm (cpa_cons he cpa_nil hs) hs).imp fun σ H R ⟨σc, C, Qc, S, h, hq⟩ => ⟨σc, C, _, S, (show cCons ca cNil σc C (kEnu Qc) from h), fun ds C1 vs H1 h1 rs R1 k1 => by
    match ds, h1, rs with
    | [], h1, _ => exact h1.elim
    | _ :: _ :: _, h1, _ => exact h1.elim
    | [d], ⟨ys, h2⟩, rs =>
    obtain ⟨v, rfl, r⟩ := rs.one
    rcases h2 with ⟨rfl | rfl, q⟩ | ⟨p, rfl, hl, q⟩
    · cases r with
      | tup sq rr => exact ⟨_, _, rfl, .inr ⟨sq, hq _ _ _ _ _ q R1 k1 (itOk_enuT sq rr R1)⟩⟩
    · cases r with
      | rls sq rr => exact ⟨_, _, rfl, .inl ⟨sq.sq, hq _ _ _ _ _ q R1 k1 (itOk_enuR sq rr R1)⟩⟩
    · cases r
      obtain ⟨vs, sq, rr⟩ := R1.ls hl
      exact ⟨_, _, rfl, .inl ⟨sq, hq _ _ _ _ _ q R1 k1 itOk_enuL⟩⟩⟩
theorem rev_at {ds : List D} {i : Nat} {d : D} (h : ds.reverse[i]? = some d) : ds[ds.length - 1 - i]? = some d := by
  by_cases hi : i < ds.length
  · rw [List.getElem?_reverse hi] at h; exact h
  · rw [List.getElem?_eq_none (by rw [List.length_reverse]; omega)] at h; cases h
theorem itOk_rvT {K : PySem.W.Frag} {a : Addr} {ds : List D} {vs : List V} {H : Hp} {C : CH} (s : SqT K H a vs) (r : RepL K H ds vs) (R : Rel K cl H C) : ItOk K cl H C (RT.ItvT K a vs.length) ds.reverse (fun _ => True) where
  go := fun i H' C' k R' _ hi => by
    rw [List.length_reverse] at hi
    have hl := r.length
    obtain ⟨v, e, _⟩ := r.get (List.getElem?_eq_getElem (show ds.length - 1 - i < ds.length by omega))
    exact ⟨by omega, vs, v, SqT.keep R k s, by rw [← hl]; exact e⟩
  yld := fun i H' C' x H'' k R' _ ⟨e, y⟩ d hd => by
    subst e
    obtain ⟨v, e, rv⟩ := r.get (rev_at hd)
    have := y vs (SqT.keep R k s)
    rw [← r.length, e] at this; cases this
    exact ⟨rv.keep R k, R', Keep.refl⟩
  stop := fun i H' C' k R' _ hi => by
    show vs.length ≤ i
    rw [← r.length]; simpa using hi
theorem itOk_rvR {X : Cx} {H : Hp} {C : CH} {a : Addr} {ds : List D} {vs : List V} (q : RlS X.K H a vs) (r : RepL X.K H ds vs) (R : Rel X.K cl H C) : ItOk X.K cl H C (Itv X.K a vs.length) ds.reverse (fun _ => True) where
  go := fun i H' C' k R' _ hi => by
    rw [List.length_reverse] at hi
    have hl := r.length
    obtain ⟨v, e, _⟩ := r.get (List.getElem?_eq_getElem (show ds.length - 1 - i < ds.length by omega))
    exact ⟨by omega, vs, v, (q.keep R k).sq, by rw [← hl]; exact e⟩
  yld := fun i H' C' x H'' k R' _ ⟨e, y⟩ d hd => by
    subst e
    obtain ⟨v, e, rv⟩ := r.get (rev_at hd)
    have := y vs (q.keep R k).sq
    rw [← r.length, e] at this; cases this
    exact ⟨rv.keep R k, R', Keep.refl⟩
  stop := fun i H' C' k R' _ hi => by
    show vs.length ≤ i
    rw [← r.length]; simpa using hi
theorem itOk_rvL {K : PySem.W.Frag} {p : Addr} {ds : List D} {H : Hp} {C : CH} : ItOk K cl H C (Itv K p ds.length) ds.reverse (fun C => LsC C p ds) where
  go := fun i H' C' k R' hG hi => by
    rw [List.length_reverse] at hi
    obtain ⟨vs, s, r⟩ := R'.ls hG
    obtain ⟨v, e, _⟩ := r.get (List.getElem?_eq_getElem (show ds.length - 1 - i < ds.length by omega))
    exact ⟨by omega, vs, v, s, e⟩
  yld := fun i H' C' x H'' k R' hG ⟨e, y⟩ d hd => by
    subst e
    obtain ⟨vs, s, r⟩ := R'.ls hG
    obtain ⟨v, e, rv⟩ := r.get (rev_at hd)
    have := y vs s
    rw [e] at this; cases this
    exact ⟨rv, R', Keep.refl⟩
  stop := fun i H' C' k R' hG hi => by
    show ds.length ≤ i
    simpa using hi
theorem cpi_rvs {tg e : Expr} {ca : CTE} {p cpos : Pos} (hg : Gl X "reversed") (hm : X.mg "reversed" = none) (he : CPE X cl H0 C0 e ca) (hs : starEach [e] X.env = [(false, eval e X.env)]) :
    CPI X cl H0 C0 tg (.Call (.Name "reversed" p) [e] [] cpos) (iRvs ca) :=
  (RT.pi_revA hg hm he hs).imp fun σ H R ⟨σc, C, Qc, S, h, hq⟩ => ⟨σc, C, _, S, h, fun d C1 v H1 ⟨ys, h2⟩ r R1 k1 => by
    rcases h2 with ⟨rfl | rfl, q⟩ | ⟨p, rfl, hl, q⟩
    · cases r with
      | tup sq rr => exact ⟨_, _, rfl, .inr ⟨sq, hq _ _ _ _ _ q R1 k1 (itOk_rvT sq rr R1)⟩⟩
    · cases r with
      | rls sq rr => exact ⟨_, _, rfl, .inl ⟨sq.sq, hq _ _ _ _ _ q R1 k1 (itOk_rvR sq rr R1)⟩⟩
    · cases r
      obtain ⟨vs, sq, rr⟩ := R1.ls hl
      exact ⟨_, _, rfl, .inl ⟨sq, hq _ _ _ _ _ q R1 k1 (by rw [← rr.length]; exact itOk_rvL)⟩⟩⟩
theorem stpD_at {i c : Int} {n k : Nat} {d : D} (h : (stpD i c n)[k]? = some d) : d = .int (i + k * c) := by
  unfold stpD at h
  rw [List.getElem?_map] at h
  cases q : (List.range n)[k]? with
  | none => rw [q] at h; cases h
  | some j =>
    rw [q] at h
    obtain ⟨hl, e⟩ := List.getElem?_eq_some_iff.mp q
    rw [List.getElem_range] at e
    subst e
    cases h; rfl
theorem itOk_stp {K : PySem.W.Frag} {lo c : Int} {n : Nat} {H : Hp} {C : CH} : ItOk K cl H C (Itc lo c n) (stpD lo c n) (fun _ => True) where
  go := fun i H' C' k R' _ hi => by
    show i < n
    simpa [stpD] using hi
  yld := fun i H' C' x H'' k R' _ ⟨e, y⟩ d hd => by
    subst e; subst y
    rw [stpD_at hd]
    exact ⟨.int _, R', Keep.refl⟩
  stop := fun i H' C' k R' _ hi => by
    show n ≤ i
    simpa [stpD] using hi
theorem cpi_rg3 {tg a b c : Expr} {ca : CTA} {p cpos : Pos} (hg : Gl X "range") (hm : X.mg "range" = none) (ha : CPA X cl H0 C0 [a, b, c] ca) (hs : starEach [a, b, c] X.env = (false, eval a X.env) :: starEach [b, c] X.env)
    (hpl : (backTo cpos (starEach [b, c] X.env)).any (·.1) = false) : CPI X cl H0 C0 tg (.Call (.Name "range" p) [a, b, c] [] cpos) (iRg3 ca) :=
  (pi_range3 hg hm ha hs hpl).imp fun σ H R ⟨σc, C, Qc, S, h, hq⟩ => ⟨σc, C, _, S, h, fun ds C1 vs H1 ⟨i, j, k, n, h1, h2, q⟩ rs R1 k1 => by
    subst h1
    cases rs with
    | cons r rs => cases rs with
      | cons r' rs => cases rs with
        | cons r'' rs =>
          cases rs; cases r; cases r'; cases r''
          exact ⟨i, j, k, n, rfl, h2, hq _ _ _ _ _ q R1 k1 itOk_stp⟩⟩
end
end L3

set_option maxHeartbeats 1000000
/-! sorted(set(a tuple of ints)) -/
namespace L3E
open PySem PySem.Spec PyProof.Rows L2
section
variable {X : Cx}
def rSetTI (K : PySem.W.Frag) (w : World) : List V → Hp → VK → Prop := fun vs H Q => ∃ (l : Addr) (ns : List Int), vs = [.ref l] ∧ SqT K H l (ns.map V.int) ∧ ns.length < 64 ∧
  ∀ (p : Addr) (c : Nat), H p = none → c ≤ ns.length → Q (.ref p) (upd H p (SetO w p (fun j => decide (j ∈ ns)) c))
theorem cr_setTI (hc : X.calm = true) : CallR X (.type "set") (rSetTI X.K X.w) := by
  intro pins s σ H vs us Q I r h
  obtain ⟨l, ns, rfl, hq, hl, q⟩ := h
  rw [Vals.ref1 r]
  obtain ⟨its, rv, pt, hz⟩ := I.tuple hq
  have hi : IntsAre its.toArray.toList ns := ints_of_vals rv
  refine call_set_tupI ns (I.ok.hd hc) (show s.heap.IsTuple l its.toArray from pt) hi (by unfold scanBound; omega) fun h' tk c R1 hcn k => ?_
  have hn : H s.heap.objs.size = none := I.hok.fresh (Nat.le_refl _)
  have J : Inv X pins σ (upd H s.heap.objs.size (SetO X.w s.heap.objs.size (fun j => decide (j ∈ ns)) c)) { s with heap := h', gens := s.gens, drawn := s.drawn, toks := tk } :=
    I.call (ch := []) (Un.laid k (Nat.le_refl _) hn) (I.hok.laid k (Nat.le_refl _) (setO_new R1)) I.bare (fun _ z => nomatch z)
  exact ⟨.ref _, _, J, rfl, q _ c hn hcn⟩
end
end L3E
namespace L3
open PySem PySem.Spec PyProof.Rows L2
section
variable {X : Cx} {cl : ClsT} {H0 : Hp} {C0 : CH} {e : Expr} {ca : CTE}
def cSrt (a : CTE) : CTE := fun σ C Q => a σ C fun d C1 => ∃ ns : List Int, d = .tup (ns.map D.int) ∧ ns.length < 64 ∧ ∀ (ms : List Int) (p : Addr), ms.Pairwise (· < ·) → (∀ k, k ∈ ms ↔ k ∈ ns) → C1 p = none → Q (.ref p) (cup C1 p (.lst (ms.map D.int)))
theorem repL_intsV {K : PySem.W.Frag} {H : Hp} : ∀ {ns : List Int} {vs : List V}, RepL K H (ns.map D.int) vs → vs = ns.map V.int
  | [], _, .nil => rfl
  | n :: ns, _, .cons h r => by cases h; rw [repL_intsV r]; rfl
theorem repL_intV {K : PySem.W.Frag} {H : Hp} : ∀ (ns : List Int), RepL K H (ns.map D.int) (ns.map V.int)
  | [] => .nil
  | n :: ns => .cons (.int n) (repL_intV ns)
theorem cpe_srt {p p2 pos pos2 : Pos} (hc : X.calm = true) (hg : Gl X "sorted") (hm : X.mg "sorted" = none) (hg2 : Gl X "set") (hm2 : X.mg "set" = none) (he : CPE X cl H0 C0 e ca)
    (hs : starEach [e] X.env = [(false, eval e X.env)])
    (hs2 : starEach [.Call (.Name "set" p2) [e] [] pos2] X.env = [(false, eval (.Call (.Name "set" p2) [e] [] pos2) X.env)]) :
    CPE X cl H0 C0 (.Call (.Name "sorted" p) [.Call (.Name "set" p2) [e] [] pos2] [] pos) (cSrt ca) := by
  have h1 := pe_callTy (L3E.cr_setTI (X := X) hc) hg2 hm2 PyProof.Rows.boot_set (pa_cons he pa_nil hs) (pos := pos2) (p := p2) (he := hs)
  have h2 := pe_callB (cr_sortedSet (X := X) hc) hg hm PyProof.Rows.boot_sorted (pa_cons h1 pa_nil hs2) (pos := pos) (p := p) (he := hs2)
  refine h2.imp fun σ H Q ⟨σc, C, Qc, S, h, hq⟩ => ?_
  refine ⟨σc, C, _, S, h, fun d C1 v H1 ⟨ns, ed, hl, q⟩ rv R1 k1 => ?_⟩
  subst ed
  cases rv with
  | tup sq rr =>
    rw [repL_intsV rr] at sq
    refine ⟨_, ns, rfl, sq, hl, fun p0 c hp0 hcn => ?_⟩
    have R2 := R1.newH hp0 (SetO X.w p0 (fun j => decide (j ∈ ns)) c)
    refine ⟨p0, _, c, rfl, upd_same, by omega, fun ms p h1 h2 h3 hp => ?_⟩
    exact ((hq.from_ k1).from_ (keep_newH hp0 _ R1)).lst (repL_intV ms) R2 hp (q ms p h1 (fun k => (h2 k).trans decide_eq_true_iff) (free_of R2 hp))
end
end L3

/-! x | y by an own __or__; (e, *es) -/
namespace L3
open PySem L2 PySem.Spec PyProof.Rows
section
variable {X : Cx} {cl : ClsT} {H0 : Hp} {C0 : CH} {ca cb : CTE} {a b : Expr} {pos : Pos} {Ca fa : Addr} {fd : FuncData} {ps : List Str} {k c np : Nat} {sem : SemF} {g : List Src} {ex : Kxs}
/-- x | y: f of the class c answers, with an object -/
def cOrO (c : Nat) (sem : SemF) (np : Nat) (g : List Src) (ex : Kxs) (a b : CTE) : CTE := fun σ C Q => a σ C fun d C1 => b σ C1 fun e C2 => ∃ p q fs gs, d = .ref p ∧ e = .ref q ∧ C2 p = some (.ins c fs) ∧ C2 q = some (.ins c gs) ∧ (gath g [.ref p, .ref q] []).length = np ∧
  sem (gath g [.ref p, .ref q] []) C2 (fun v C' => ∃ r, v = .ref r ∧ Q v C') fun x C' => ex x σ C'
theorem cpe_orO (hc : cl c = some Ca) (hm : Meth X.K Ca "__or__" fa) (sf : PySem.W.selfFirst X.K Ca = true) (F : FnOkG X.prog X.w X.K X.mg X.base (L2.CX X.prog X.w) k fa fd ps (spC X.K cl np sem)) (hr : Room k X.A) (hgd : X.A.guards = some []) (hb : BindsC X.K fd ps 2 [] g) (tk : Takes X (WC X.K cl H0 C0 ex))
    (ha : CPE X cl H0 C0 a ca) (hb' : CPE X cl H0 C0 b cb) : CPE X cl H0 C0 (.BinOp a .BitOr b pos) (cOrO c sem np g ex ca cb) := by
  refine ⟨fun pins s σ H Q I ⟨σc, C, Qc, S, h, hq⟩ => ?_⟩
  obtain ⟨gv, gV, b1, b2, b3⟩ := hb
  refine wpAny_BinOp (thn (ha.run pins s σ H (fun v H1 => ∃ d C1, Rep X.K H1 d v ∧ Rel X.K cl H1 C1 ∧ Keep H C H1 C1 ∧ cb σc C1 fun e C2 => ∃ p q fs gs, d = .ref p ∧ e = .ref q ∧ C2 p = some (.ins c fs) ∧ C2 q = some (.ins c gs) ∧ (gath g [.ref p, .ref q] []).length = np ∧
      sem (gath g [.ref p, .ref q] []) C2 (fun v C' => ∃ r, v = .ref r ∧ Qc v C') fun x C' => ex x σc C') I ⟨σc, C, _, S, h, fun d C1 v H1 q rv R1 k1 => ⟨d, C1, rv, R1, k1, q⟩⟩) fun u s1 ⟨x, H1, I1, ru, d, C1, rv, R1, k1, q⟩ => ?_)
  have S1 := S.step k1 R1
  refine thn (hb'.run pins s1 σ H1 (fun v H2 => ∃ e C2, Rep X.K H2 e v ∧ Rel X.K cl H2 C2 ∧ Keep H1 C1 H2 C2 ∧ ∃ p q fs gs, d = .ref p ∧ e = .ref q ∧ C2 p = some (.ins c fs) ∧ C2 q = some (.ins c gs) ∧ (gath g [.ref p, .ref q] []).length = np ∧
      sem (gath g [.ref p, .ref q] []) C2 (fun v C' => ∃ r, v = .ref r ∧ Qc v C') fun x C' => ex x σc C') I1 ⟨σc, C1, _, S1, q, fun e C2 v H2 q rv R2 k2 => ⟨e, C2, rv, R2, k2, q⟩⟩) fun u2 s2 ⟨y, H2, I2, ru2, e, C2, rv2, R2, k2, p, qa, fs, gs, e1, e2, hp, hq2, hl, hs⟩ => ?_
  subst e1; subst e2
  cases rv; cases rv2
  obtain rfl : u = Value.ref p := ru
  obtain rfl : u2 = Value.ref qa := ru2
  obtain ⟨Ca1, dx, fv, hc1, g1, _⟩ := R2 p _ hp
  obtain ⟨Ca2, dy, gv2, hc2, g2, _⟩ := R2 qa _ hq2
  rw [hc] at hc1 hc2
  cases hc1; cases hc2
  obtain ⟨mA, J, _⟩ := ins_get I2.hok g1
  obtain ⟨mB, J', _⟩ := ins_get I2.hok g2
  obtain ⟨od, J, _⟩ := J.look
  obtain ⟨od', J', _⟩ := J'.look
  obtain ⟨m, hF⟩ := I2.fr
  refine PySem.W.binop_K (op := .BitOr) hF I2.ok.mod.kin J J'.type sf hm.at_ hm.fn ?_
  have bind := b1 s2 [.ref p, .ref qa] [] I2.kIn rfl rfl
  have rr := run_at (args := ⟨[.ref p, .ref qa], []⟩) (Q := fun v H' => ∃ r C', v = .ref r ∧ Rel X.K cl H' C' ∧ Keep H2 C2 H' C' ∧ Qc (.ref r) C') (E := WE (WC X.K cl H0 C0 ex)) F hr hgd (by simpa using bind) (passAt tk σ) I2
    (b2 (.cons (show RelV (V.ref p) (Value.ref p) from rfl) (.cons (show RelV (V.ref qa) (Value.ref qa) from rfl) .nil)) .nil)
    ⟨_, C2, _, _, b3 H2 [.ref p, .ref qa] _ [] _ rfl rfl (.cons (.ref p) (.cons (.ref qa) .nil)) .nil, hl, R2, hs, fun d' C' v' H' ⟨r, er, qr⟩ rv R' kk => by
      subst er
      cases rv
      exact ⟨r, C', rfl, R', kk, qr⟩, fun x C'' cls d H'' hx xr R'' k'' => ⟨x, σc, C'', hx, xr, S1.step (k2.trans k'') R''⟩⟩
  refine wpAny_mono rr (fun w s' ⟨z, H', I', rz, r, C', ez, R', kk, qq⟩ => ?_) fun _ _ e => e
  subst ez
  obtain rfl : w = Value.ref r := rz
  exact ⟨.ref r, H', I', rfl, hq _ _ _ _ qq (.ref r) R' ((k1.trans k2).trans kk)⟩
structure OwnB (K : PySem.W.Frag) (Ca f : Addr) : Prop where
  mt : Meth K Ca "__or__" f
  sf : PySem.W.selfFirst K Ca = true
/-! (e, *es) -/
theorem star_lst {X : Cx} {pins : List (Addr × Obj)} {σ : L2.St} {H : Hp} {s : Shared} {a : Addr} {xs : List V} {E : Value → Shared → Prop} {Q : List Value → Shared → Prop} (I : Inv X pins σ H s) (h : SqL X.K H a xs) (hQ : ∀ us s', Inv X pins σ H s' → Vals xs us → Q us s') :
    PySem.W.StarOf (model X.prog X.w) X.A E (.ref a) Q s := by
  obtain ⟨its, r, ⟨o, n, ho, hc, _, hd⟩, hz⟩ := I.list h
  have hT : s.TypeIs (.ref a) "list" := ⟨o, ho, hc⟩
  have hl := r.length
  have z : wpAny (model X.prog X.w) X.A (collect (.ref a)) Q E s := by
    refine wpAny_collect_seq a (.inl rfl) ho hc hd (fun h' hk => ?_) (by rw [List.size_toArray]; omega)
    have e : its.toArray.toList = its := by simp
    rw [e]
    exact hQ its _ (I.kept (t' := s.toks) hk) r
  unfold PySem.W.StarOf notIterableAtAll
  exact wpAny_bind (wpAny_specialOf hT PySem.F.slot_list_iter.lookup (wpAny_pure ⟨rfl, z⟩))
def cTupS (a b : CTE) : CTE := fun σ C Q => a σ C fun d C1 => b σ C1 fun e C2 => ∃ ds, SqC C2 e ds ∧ ds.length + 1 ≤ sizeLine ∧ Q (.tup (d :: ds)) C2
def tStar (K : PySem.W.Frag) (ta tb : TE) : TA := fun σ H Q => ta σ H fun x H1 => tb σ H1 fun y H2 => ∃ p vs, y = .ref p ∧ (SqL K H2 p vs ∨ SqT K H2 p vs) ∧ Q (x :: vs) H2
theorem pa_star {X : Cx} {e1 e2 : Expr} {ta tb : TE} {p : Pos} (ha : PE X e1 ta) (hb : PE X e2 tb) (hs : starEach [e1, .Starred e2 p] X.env = (false, eval e1 X.env) :: starEach [.Starred e2 p] X.env) (hs2 : starEach [.Starred e2 p] X.env = [(true, eval e2 X.env)] := by rfl) : PA X [e1, .Starred e2 p] (tStar X.K ta tb) := by
  refine ⟨fun pos pins s σ H Q I h => ?_⟩
  rw [hs]
  show wpAny _ _ (spliced ((false, eval e1 X.env) :: backTo pos (starEach [.Starred e2 p] X.env))) _ _ s
  refine Calls.spliced_cons (thn (ha.run pins s σ H _ I h) fun u s1 ⟨x, H1, I1, r1, q1⟩ => ?_)
  refine PySem.W.items_star (thn (hb.run pins s1 σ H1 _ I1 q1) fun v s2 ⟨y, H2, I2, r2, t, vs, ey, ht, q2⟩ => ?_) hs2
  subst ey
  obtain rfl : v = Value.ref t := r2
  rcases ht with ht | ht
  · refine star_lst I2 ht fun us s3 I3 rv => Calls.spliced_nil ?_
    exact ⟨x :: vs, H2, I3, .cons r1 (by simpa using rv), q2⟩
  · refine star_tup I2 ht fun us s3 I3 rv => Calls.spliced_nil ?_
    exact ⟨x :: vs, H2, I3, .cons r1 (by simpa using rv), q2⟩
theorem cpe_tupS {x1} {p : Pos} (ha : CPE X cl H0 C0 a ca) (hb : CPE X cl H0 C0 b cb) (hs : starEach [a, .Starred b p] X.env = (false, eval a X.env) :: starEach [.Starred b p] X.env) : CPE X cl H0 C0 (.Tuple [a, .Starred b p] x1 pos) (cTupS ca cb) :=
  (pe_tup (pa_star ha hb hs)).imp fun σ H Q ⟨σc, C, Qc, S, h, hq⟩ => ⟨σc, C, _, S, h, fun d C1 v H1 h1 rv R1 k1 => ⟨σc, C1, _, S.step k1 R1, h1, fun e C2 u H2 ⟨ds, h2, hl, q⟩ ru R2 k2 => by
    obtain ⟨p, vs, rfl, hsq, rs⟩ := R2.sq h2 ru
    have rv2 := rv.keep R1 k2
    refine ⟨p, vs, rfl, hsq, by rw [List.length_cons, ← rs.length]; exact hl, fun q' hq' => ?_⟩
    exact (hq.from_ (k1.trans k2)).tup q (.cons rv2 rs) R2 hq'⟩⟩
end
end L3

/-! a caught exception is held as a value by the statements behind the try -/
namespace L3
open PySem L2 PySem.Spec PyProof.Rows
/-- the context that knows the object at a -/
abbrev pinX (X : Cx) (a : Addr) (oe : Obj) : Cx := { X with pn := (a, oe) :: X.pn }
section
variable {X : Cx} {pins : List (Addr × Obj)} {σ : L2.St} {H : Hp} {s : Shared}
theorem pinOk (k : X.Ok) (a : Addr) (oe : Obj) : (pinX X a oe).Ok :=
  ⟨k.mod, k.kind, k.glob, k.blt, k.above, k.inj, k.has, k.cab, k.hd, k.frames, k.stk, k.exf,
    k.bs, k.bsz, k.noex, k.exfs, k.funs, k.frf⟩
theorem pin_of_suite {a : Addr} {oe : Obj} (k : X.Ok) (I : Inv (X.suite a ((a, oe) :: (X.pn ++ pins))) [] σ H s) : Inv (pinX X a oe) pins σ H s :=
  ⟨pinOk k a oe, I.os, I.bare, I.base, I.loc, I.cell, I.free, I.freeC,
    fun p hp => I.pin p (by rw [List.append_nil]; exact hp), I.hok, I.len⟩
theorem unpin {a : Addr} {oe : Obj} (k : X.Ok) (I : Inv (pinX X a oe) pins σ H s) : Inv X pins σ H s :=
  ⟨k, I.os, I.bare, I.base, I.loc, I.cell, I.free, I.freeC,
    fun p hp => I.pin p (List.mem_cons_of_mem _ hp), I.hok, I.len⟩
theorem SP_unpin {a : Addr} {oe : Obj} {D : Ends} {f : Flow} (k : X.Ok) (h : SP (pinX X a oe) pins D f s) : SP X pins D f s := by
  cases f with
  | next => obtain ⟨σ1, H1, J, q⟩ := h; exact ⟨σ1, H1, unpin k J, q⟩
  | brk => obtain ⟨σ1, H1, J, q⟩ := h; exact ⟨σ1, H1, unpin k J, q⟩
  | cont => obtain ⟨σ1, H1, J, q⟩ := h; exact ⟨σ1, H1, unpin k J, q⟩
  | ret v => obtain ⟨w, σ1, H1, J, r, q⟩ := h; exact ⟨w, σ1, H1, unpin k J, r, q⟩
end
/-- what the clause wishes: ts the suite, tk what stands behind the try -/
def wKeep (K : PySem.W.Frag) (c : Value) (i : Nat) (ts : Addr → Value → TS) (tk : Addr → Value → Option Addr → TS) (Wout : WX) (D : Ends) : WX := fun cls d σ H =>
  ∃ b, PySem.W.exmOne K cls c = some b ∧
    (b = true → ∀ a, H a = none → ts a cls { nx := fun σ1 H1 => tk a cls d D (σ1.set i none) H1, rt := fun _ _ => False } (σ.set i (some (.ref a))) H) ∧
    (b = false → Wout cls d σ H)
section
variable {X : Cx} {x n : Str} {c : Value} {i : Nat} {body suite rest : List Stmt} {b0 : Stmt} {np pos pos' : Pos} {tb : WX → TS} {ts : Addr → Value → TS} {tk : Addr → Value → Option Addr → TS} {tr : TS} {Wout : WX}
theorem pss_try_keep (hs : X.stack = X.env :: X.outer) (hf : X.env.frame = some X.env.locals) (hN : X.N.Nodup) (hi : X.N[i]? = some n) (hln : X.env.kindOf n = some .local) (hc : Names X x c) (tkO : Takes X Wout)
    (hb : ∀ (W : WX) (pn : List (Addr × Obj)) (xe : Value → Shared → Prop), Takes (X.tr pn xe) W → PassesOwn (model X.prog X.w) X.A X.env xe → PSs (X.tr pn xe) body (tb W))
    (hsu : ∀ (a : Addr) (oe : Obj) (cls : Value) (pn : List (Addr × Obj)), PSs (X.suite a ((a, oe) :: pn)) (b0 :: suite) (ts a cls))
    (hr : PSs X rest tr) (hk : ∀ (a : Addr) (oe : Obj) (cls : Value) (d : Option Addr), Zc cls d oe → (∃ vs, oe.data = .fields vs) → PSs (pinX X a oe) rest (tk a cls d)) :
    PSs X (.Try body [.ExceptHandler (some (.Name x np)) (some n) (b0 :: suite) pos'] [] [] pos :: rest) (fun D σ H => tb (wKeep X.K c i ts tk Wout D) { D with nx := tr D } σ H) := by
  constructor
  intro pins s0 σ0 H0 D I h
  have k := I.ok
  have hA : X.A.frames = some (X.env :: X.outer) := k.frames.trans (by rw [hs])
  have hloc : Loc X.env.scope n := Or.inl hln
  refine wpAny_execs_cons (wpAny_Try_except ?_)
  let R : Flow → Shared → Prop := fun f s1 => match f with
    | .next => wpAny (model X.prog X.w) X.A (execs rest X.env) (SP X pins D) X.xe s1
    | g => SP X pins D g s1
  have through : ∀ (f : Flow) (s1 : Shared), SP (X.tr (X.pn ++ pins) fun e s1 => wpAny (model X.prog X.w) X.A (noteFrame e X.env) (fun _ s2 => wpAny (model X.prog X.w) X.A (setFlight e none)
        (fun _ s3 => wpAny (model X.prog X.w) X.A (handleBy e X.env [.ExceptHandler (some (.Name x np)) (some n) (b0 :: suite) pos']) R X.xe s3) X.xe s2) X.xe s1) [] { D with nx := tr D } f s1 →
      (match f with | .next => wpAny (model X.prog X.w) X.A (execs [] X.env) R X.xe s1 | g => R g s1) := by
    intro f s1 q
    cases f with
    | next =>
      obtain ⟨σ1, H1, J, q1⟩ := q
      exact wpAny_execs_nil (hr.run pins s1 σ1 H1 D (J.ofTry k) q1)
    | brk => obtain ⟨σ1, H1, J, q1⟩ := q; exact ⟨σ1, H1, J.ofTry k, q1⟩
    | cont => obtain ⟨σ1, H1, J, q1⟩ := q; exact ⟨σ1, H1, J.ofTry k, q1⟩
    | ret v => obtain ⟨w, σ1, H1, J, r, q1⟩ := q; exact ⟨w, σ1, H1, J.ofTry k, r, q1⟩
  refine wpAny_mono ((hb (wKeep X.K c i ts tk Wout D) (X.pn ++ pins) _ (fun u s1 air => ?_) PassesOwn.looking).run [] s0 σ0 H0 _ (I.toTry _) h) through (fun _ _ q => q)
  -- the exception lands
  obtain ⟨a, G, t0, pins1, σ1, H1, cls, d, eu, J0, below, upto, sky, fresh, os0, bare0, b, hcls, yes, no⟩ := air
  subst eu
  have J : Inv X pins σ1 H1 t0 := J0.ofTry k
  have sky1 : Sky G (X.env :: X.outer) a (Zc cls d) X.env.locals s1.heap := hs ▸ sky
  refine Sky.land Zc.steady hA hf sky1 fun g3 fly3 up3 => ?_
  have at_ : ∀ g, HandSPX.FlyingZ G (X.env :: X.outer) a (Zc cls d) g → s1.heap.UpToSlots g → L2.Inv X pins σ1 H1 { s1 with heap := g } := fun g fl up =>
    J.landed below fl.1 (upto.trans up) os0 bare0
  have I3 := at_ g3 fly3 up3
  obtain ⟨o3, v3, at3, z3, f3⟩ := fly3.there
  have away : a ∉ frs (X.env :: X.outer) := fun hm => by
    obtain ⟨_, o1, at1, nf⟩ := fly3.2.2.1.mem hm
    cases at3.symm.trans at1
    exact nf _ f3
  have offL : a ≠ X.env.locals := fun z => away (List.mem_filterMap.mpr ⟨X.env, List.mem_cons_self, hf.trans (congrArg some z.symm)⟩)
  have offF : a ∉ X.fs := fun hm => by
    obtain ⟨e1, m1, q1⟩ := List.mem_filterMap.mp hm
    exact away (List.mem_filterMap.mpr ⟨e1, List.mem_cons_of_mem _ m1, q1⟩)
  have T3 := I3.suite at3 f3 fresh offL offF
  refine wpAny_handleBy_cons (codeAny_handlers_test ?_) (by intro q; cases q)
  have isCls : PySem.W.Looks (model X.prog X.w) g3 (typeOf (.ref a)) cls := fun A' Q' E' t kp q => wpAny_typeOf_ref (kp _ _ at3) (z3.1 ▸ q)
  have asks := PySem.W.exm_one (M := model X.prog X.w) I3.kIn isCls hcls
  have named : ∀ {Q1 : Value → Shared → Prop} {E1 : Value → Shared → Prop}, Q1 c { s1 with heap := g3 } →
      wpAny (model X.prog X.w) (X.A.mark (some (.ref a))) (eval (.Name x np) X.env) Q1 E1 { s1 with heap := g3 } := fun {Q1 E1} q => by
    obtain ⟨gl, nd, own | ⟨no1, boot, nn⟩⟩ := hc
    · exact ld_glob (X := X.suite a ((a, o3) :: (X.pn ++ pins))) T3 gl own q nd
    · exact ld_blt (X := X.suite a ((a, o3) :: (X.pn ++ pins))) T3 gl no1 boot q nn nd
  refine named (asks.here ?_)
  cases b with
  | true =>
    refine codeAny_handlers_suite_as ?_
    refine HandSPX.lands_againZ fly3 fun g4 fly4 up4 => ?_
    have I4 := at_ g4 fly4 (up3.trans up4)
    obtain ⟨o4, v4, at4, z4, f4⟩ := fly4.there
    have T4 := I4.suite at4 f4 fresh offL offF
    refine store_ok (X := X.suite a ((a, o4) :: (X.pn ++ pins))) (v := .ref a) T4 hN hi hloc rfl (fun s5 T5 => ?_) (.inr hln)
    refine wpAny_mono ((hsu a o4 cls (X.pn ++ pins)).run [] s5 _ H1 _ T5 (yes rfl a fresh)) (fun f s6 q => ?_) (fun _ _ z => z.elim)
    cases f with
    | next =>
      obtain ⟨σ6, H6, T6, q6⟩ := q
      refine gone_ok (X := pinX X a o4) (pin_of_suite k T6) hN hi hln fun s7 I7 => ?_
      refine wpAny_mono ((hk a o4 cls d z4 ⟨_, f4⟩).run pins s7 _ H6 D I7 q6) (fun g s8 q8 => SP_unpin k q8) fun _ _ z => z
    | brk => obtain ⟨σ6, H6, T6, q6⟩ := q; exact q6.elim
    | cont => obtain ⟨σ6, H6, T6, q6⟩ := q; exact q6.elim
    | ret v => obtain ⟨w, σ6, H6, T6, r6, q6⟩ := q; exact q6.elim
  | false =>
    -- no clause takes it: it goes on
    refine wpAny_handleBy_nil ?_
    obtain ⟨_, _, _, o5, v5, P5, oP, vP, at5, _, f5, first5, _⟩ := id fly3
    have on : wpAny (model X.prog X.w) X.A (setFlight (.ref a) X.env.frame) (fun _ s4 => wpAny (model X.prog X.w) X.A (throw (.ref a) : Sem Flow) R X.xe s4) X.xe { s1 with heap := g3 } := by
      refine hf ▸ HandSPX.setFlight_upZ fly3 fun g4 held up4 => wpAny_throw (tkO _ _ ?_)
      exact ⟨a, G, t0, pins, σ1, H1, cls, d, rfl, J, below, (upto.trans up3).trans up4,
        Or.inr (Or.inr (by rw [hs]; exact held)), fresh, os0, bare0, no rfl⟩
    unfold PySem.passOn
    refine wpAny_bind (wpAny_field at5 f5 first5 ?_)
    have some5 : (Value.ref P5 == Value.none) = false := by simp
    rw [some5, if_neg Bool.false_ne_true]
    first
      | exact wpAny_bind (wpAny_pure (wpAny_bind on))
      | exact wpAny_bind on
end
/-! the same by data -/
section
variable {X : Cx} {cl : ClsT} {H0 : Hp} {C0 : CH} {ex : Kxs}
theorem cpss_try_keep {x n : Str} {i : Nat} {c : Value} {body suite rest : List Stmt} {b0 : Stmt} {np pos pos' : Pos} {sub : Nat → Bool} {b : Kxs → CTS} {s r : CTS} {kk : Addr → Nat → CTS}
    (hs : X.stack = X.env :: X.outer) (hf : X.env.frame = some X.env.locals) (hN : X.N.Nodup) (hi : X.N[i]? = some n) (hln : X.env.kindOf n = some .local) (hc : Names X x c) (hsub : SubOk X.K cl c sub) (tk : Takes X (WC X.K cl H0 C0 ex))
    (hb : ∀ (pn : List (Addr × Obj)) (xe : Value → Shared → Prop) (ex' : Kxs) (H1 : Hp) (C1 : CH), Takes (X.tr pn xe) (WC X.K cl H1 C1 ex') → PassesOwn (model X.prog X.w) X.A X.env xe → CPSs (X.tr pn xe) cl H1 C1 body (b ex'))
    (hsu : ∀ (a : Addr) (oe : Obj) (pn : List (Addr × Obj)), CPSs (X.suite a ((a, oe) :: pn)) cl H0 C0 (b0 :: suite) s)
    (hr : CPSs X cl H0 C0 rest r) (hk : ∀ (a : Addr) (oe : Obj) (cc : Nat) (Ca : Addr), cl cc = some Ca → Zc (.ref Ca) none oe → (∃ vs, oe.data = .fields vs) → CPSs (pinX X a oe) cl H0 C0 rest (kk a cc)) :
    CPSs X cl H0 C0 (.Try body [.ExceptHandler (some (.Name x np)) (some n) (b0 :: suite) pos'] [] [] pos :: rest)
      (fun D σ C => b (fun y σ1 C1 => if sub y.cls = true then y.fs = [] ∧ ∀ a, C1 a = none → s { nx := fun σ2 C2 => kk a y.cls D (σ2.set i none) C2, rt := fun _ _ => False } (σ1.set i (some (.ref a))) C1 else ex y σ1 C1) { D with nx := fun σ2 C2 => r D σ2 C2 } σ C) :=
  (pss_try_keep (tb := fun W D σ H => ∃ ex' H1 C1, (∀ cls d σ H, WC X.K cl H1 C1 ex' cls d σ H → W cls d σ H) ∧ tS X.K cl H1 C1 (b ex') D σ H) (ts := fun _ _ => tS X.K cl H0 C0 s)
      (tk := fun a cls d D σ H => ∃ cc Ca, cl cc = some Ca ∧ cls = .ref Ca ∧ d = none ∧ tS X.K cl H0 C0 (kk a cc) D σ H) (tr := tS X.K cl H0 C0 r) hs hf hN hi hln hc tk
    (fun W pn xe tk' po => ⟨fun pins st σ H D I ⟨ex', H1, C1, hw, h⟩ => (hb pn xe ex' H1 C1 (tk'.imp hw) po).run pins st σ H D I h⟩)
    (fun a oe _ pn => hsu a oe pn) hr
    (fun a oe cls d z f => ⟨fun pins st σ H D I ⟨cc, Ca, h1, h2, h3, h⟩ => by subst h2; subst h3; exact (hk a oe cc Ca h1 z f).run pins st σ H D I h⟩)).imp fun D σ H ⟨σc, C, Dc, S, h, hq⟩ => by
    refine ⟨_, H, C, fun cls d σ1 H1 ⟨y, σ2, C1, hy, ⟨Ca, e1, e2, e3⟩, S1⟩ => ?_, σc, C, { Dc with nx := fun σ2 C2 => r Dc σ2 C2 }, ⟨S.s, S.r, Keep.refl⟩, h, ⟨fun σ2 C2 σ3 H3 q rp R kp => ⟨σ2, C2, Dc, ⟨rp, R, S.f.trans kp⟩, q, hq.from_ kp⟩, hq.rt, hq.bk, hq.ct⟩⟩
    · subst e2
      have S2 : S3 X.K cl H0 C0 σ1 H1 σ2 C1 := ⟨S1.s, S1.r, S.f.trans S1.f⟩
      refine ⟨_, hsub _ _ e1, fun yes a fresh => ?_, fun no => ?_⟩
      · have hy' : y.fs = [] ∧ ∀ a, C1 a = none → s { nx := fun σ2 C2 => kk a y.cls Dc (σ2.set i none) C2, rt := fun _ _ => False } (σ2.set i (some (.ref a))) C1 := by
          have := hy
          simp only [yes, if_true] at this
          exact this
        obtain ⟨f0, hy'⟩ := hy'
        have dn : d = none := by
          rcases e3 with ⟨e3, _⟩ | ⟨_, _, ne, _⟩
          · exact e3
          · exact (ne f0).elim
        have hq1 := hq.from_ S1.f
        refine ⟨_, C1, _, ⟨S2.s.set (.ref a) i, S2.r, S2.f⟩, hy' a (free_of S2.r fresh), ⟨fun σ3 C3 σ4 H4 q rp R kp => ?_, fun _ _ _ _ z => z.elim, fun _ _ _ _ z => z.elim, fun _ _ _ _ z => z.elim⟩⟩
        exact ⟨y.cls, Ca, e1, rfl, dn, _, C3, Dc, ⟨rp.wipe1 i, R, S2.f.trans kp⟩, q, hq1.from_ kp⟩
      · have hy' : ex y σ2 C1 := by
          have := hy
          simp only [no, Bool.false_eq_true, if_false] at this
          exact this
        exact ⟨y, σ2, C1, hy', ⟨Ca, e1, rfl, e3⟩, S2⟩
/-! isinstance of what was caught -/
def rIsP (K : PySem.W.Frag) (Da a : Addr) : List V → Hp → VK → Prop := fun xs H Q =>
  ∃ (c : V) (cv : Value) (b : Bool), xs = [.ref a, c] ∧ (∀ u, RelV c u → u = cv) ∧ PySem.W.kitOne K (.ref Da) cv = some b ∧ Q (.bl b) H
theorem call_isP {a Da : Addr} {oe : Obj} (hp : (a, oe) ∈ X.pn) (C : ExcC X.K Da) (hz : Zc (.ref Da) none oe) (hf : ∃ vs, oe.data = .fields vs) : CallR X (.builtin "isinstance") (rIsP X.K Da a) := by
  intro pins s σ H xs us Q I r ⟨c, cv, b, ex, hcv, e, q⟩
  subst ex
  cases r with
  | cons rx rr =>
  cases rr with
  | cons rt rr =>
  cases rr
  cases rx
  have ec := hcv _ rt
  subst ec
  have at_ := (I.pin (a, oe) (List.mem_append_left _ hp)).1
  obtain ⟨vs, hv⟩ := hf
  have J : PySem.W.InstAt s.heap a oe Da none := by
    obtain ⟨k1, k2, k3, k4⟩ := oe
    obtain ⟨h1, h2⟩ := hz
    dsimp only at h1 h2 hv
    subst h1 h2 hv
    exact ⟨at_, rfl, rfl, trivial⟩
  exact PySem.W.kia_one (PySem.W.handS_kitx_exc C.hg C.hk C.hs C.hd C.ha C.hn C.ht C.hm) I.kIn J e
    (fun z => nomatch z) fun tk => ⟨.bl b, H, I.kept (t' := tk) fun _ _ z => z, rfl, q⟩
/-- isinstance(name j, u): the name holds what was caught, of the class cc -/
def cIsx (ans : List (Nat × Bool)) (j : Nat) (a : Addr) (cc : Nat) : CTE := fun σ C Q => σ[j]? = some (some (.ref a)) ∧ ∃ b, ans.lookup cc = some b ∧ Q (.bl b) C
theorem cpe_isx {ans : List (Nat × Bool)} {u : String ⊕ Nat} {e c : Expr} {p pos : Pos} {vc : V} {j : Nat} {a Da : Addr} {cc : Nat} {oe : Obj} (hkit : ∀ b, ans.lookup cc = some b → ∃ vu, tyVal cl u = some vu ∧ PySem.W.kitOne X.K (.ref Da) vu = some b)
    (hp : (a, oe) ∈ X.pn) (C : ExcC X.K Da) (hz : Zc (.ref Da) none oe) (hfl : ∃ vs, oe.data = .fields vs) (he : CPE X cl H0 C0 e (cVar j)) (hc : PE X c (tC vc)) (hcv : ∀ w, tyVal cl u = some w → ClsV vc w) (hg : Gl X "isinstance") (hm : X.mg "isinstance" = none)
    (h1 : notStar e = true) (h2 : notStar c = true) : CPE X cl H0 C0 (.Call (.Name "isinstance" p) [e, c] [] pos) (cIsx ans j a cc) :=
  (pe_callB (call_isP hp C hz hfl) hg hm (by decide +kernel) (pa_cons he (pa_cons hc pa_nil (star_of h2)) (star_of h1)) (by decide) (by decide) (star_of h1) (star_any (by simp [h2]))).imp fun σ H Q ⟨σc, C1, Qc, S, ⟨ha, b, hb, q⟩, hq⟩ =>
    ⟨σc, C1, fun d C2 => d = .ref a ∧ C2 = C1, S, ⟨_, ha, rfl, rfl⟩, fun d C2 v H1 ⟨hd, hC⟩ rv R1 k1 => by
      subst hd; subst hC
      cases rv
      obtain ⟨vu, e1, e2⟩ := hkit b hb
      refine ⟨vc, vu, b, rfl, ?_, e2, (hq.from_ k1).now q (.bl b) R1⟩
      have cv := hcv vu e1
      intro w rw_
      cases cv with
      | ty n => cases rw_; rfl
      | own Ca => cases rw_; rfl⟩
end
end L3

/-! s not in xs: a list of None and objects with an own == -/
namespace L3N
open PySem PySem.Spec PyProof.Rows PySem.SeqAt
open AutoSeq1 (wpAny_loadPart')
open MeetsSeq MeetsSeq2 MeetsSeq3 SeqRoads2
section
variable {prog : Program} {w : World}
/-- the walk of list.__contains__ where each item answers False; J i: what holds ahead of item i -/
def CSpec (prog : Program) (w : World) (l : Addr) (items : Array Value) (x : Value) (i : Nat) : PySem.Spec := fun A R s => ∃ J : Nat → Shared → Prop, J i s ∧ (∀ i s, J i s → s.heap.IsList l items) ∧
  (∀ j (h : j < items.size) s, J j s → wpAny (model prog w) A.in1 (eqBool items[j] x) (fun b s' => b = false ∧ J (j + 1) s') (fun e s' => R (.error e) s') s) ∧ ∀ s, J items.size s → R (.ok (.ret (.bool false))) s
theorem contains_loopK (l : Addr) (items : Array Value) (x : Value) (k : Nat) : ∀ i : Nat, items.size - i = k → i ≤ items.size → MeetsIn prog w (Builtin.«list.__contains__.loop» ⟨[.ref l, x, rawInt i], []⟩) (CSpec prog w l items x i) := by
  induction k with
  | zero =>
    intro i hk hi A R s ⟨J, h0, hl, st, fin⟩
    have ei : i = items.size := by omega
    subst ei
    have f := fin s h0
    obtain ⟨⟨cls, dd, data, sl⟩, ho, hc, n, hd⟩ := hl _ s h0
    simp only at hc hd
    subst hc hd
    obtain ⟨hp, g, d, tk, os⟩ := s
    wp_walk using wpAny_loadPart' ho
    have hi : items[((items.size : Nat) : Int).toNat]? = none := by simp
    rw [hi]
    wp_walk
    exact f
  | succ k ih =>
    intro i hk hi A R s ⟨J, h0, hl, st, fin⟩
    have hlt : i < items.size := by omega
    have s1 := st i hlt s h0
    obtain ⟨⟨cls, dd, data, sl⟩, ho, hc, n, hd⟩ := hl _ s h0
    simp only at hc hd
    subst hc hd
    obtain ⟨hp, g, d, tk, os⟩ := s
    wp_walk using wpAny_loadPart' ho
    have hi : items[((i : Nat) : Int).toNat]? = some items[i] := by simp [hlt]
    rw [hi]
    refine wpAny_bind (wpAny_mono s1 (fun b s' hb => ?_) fun _ _ e => e)
    obtain ⟨rfl, j1⟩ := hb
    have hc : ((i : Int) + 1) = ((i + 1 : Nat) : Int) := by push_cast; rfl
    obtain ⟨hp', g', d', tk', os'⟩ := s'
    wp_walk
    rw [hc]
    exact ⟨plainId_quiet plain_contains_loop _, codeAny_builtin entry_contains_loop (by
      rw [Around.under_plainId plain_contains_loop _]
      exact ih (i + 1) (by omega) (by omega) A R _ ⟨J, j1, hl, st, fin⟩)⟩
theorem list_containsK (l : Addr) (items : Array Value) (x : Value) : MeetsIn prog w (Builtin.«list.__contains__» ⟨[.ref l, x], []⟩) (CSpec prog w l items x 0) := by
  intro A R s h
  obtain ⟨J, h0, hl, st, fin⟩ := id h
  obtain ⟨⟨cls, dd, data, sl⟩, ho, hc, n, hd⟩ := hl _ s h0
  simp only at hc hd
  subst hc hd
  obtain ⟨hp, g, d, tk, os⟩ := s
  wp_walk using wpAny_loadPart' ho
  exact ⟨plainId_quiet plain_contains_loop _, codeAny_builtin entry_contains_loop (by
    rw [Around.under_plainId plain_contains_loop _]
    exact contains_loopK l items x _ 0 rfl (Nat.zero_le _) A R _ h)⟩
theorem notIn_listK {A : Around} {E : Value → Shared → Prop} {s : Shared} {l : Addr} {items : Array Value} {x : Value} {Q : Value → Shared → Prop} (h : CSpec prog w l items x 0 A (wants (fun v s' => v = .bool false ∧ Q (.bool true) s') E) s) : wpAny (model prog w) A (compareOp .NotIn x (.ref l)) Q E s := by
  have hT : s.TypeIs (.ref l) "list" := by
    obtain ⟨J, h0, hl, _⟩ := h
    obtain ⟨o, ho, hc, _⟩ := hl _ s h0
    exact ⟨o, ho, hc⟩
  show wpAny _ A (do return .bool (!(← contains (.ref l) x))) Q E s
  refine wpAny_bind (wpAny_contains_slot hT F.slot_list_contains (wpAny_mono (call_meetsIn F.slot_list_contains hT F.entry_list_contains (F.args_list_contains_2 _ _) (list_containsK l items x) h) (fun v s' hv => ?_) fun _ _ e => e))
  obtain ⟨rfl, hq⟩ := hv
  exact wpAny_truthy_bool (wpAny_pure hq)
end
end L3N
namespace L3
open PySem L2 PySem.Spec PyProof.Rows
def oV : Option Addr → V
  | none => .non
  | some a => .ref a
def oVal : Option Addr → Value
  | none => .none
  | some a => .ref a
def oDD : Option Addr → D
  | none => .non
  | some a => .ref a
theorem oV_vals : ∀ {us : List (Option Addr)} {its : List Value}, Vals (us.map oV) its → its = us.map oVal
  | [], _, h => by cases h; rfl
  | u :: us, _, h => by
    cases h with
    | cons r rr =>
      rw [oV_vals rr, List.map_cons]
      cases u with
      | none => rw [show _ = Value.none from r]; rfl
      | some a => rw [show _ = Value.ref a from r]; rfl
theorem oDD_rep {K : PySem.W.Frag} {H : Hp} : ∀ {us : List (Option Addr)} {vs : List V}, RepL K H (us.map oDD) vs → vs = us.map oV
  | [], _, h => by cases h; rfl
  | u :: us, _, h => by
    cases h with
    | cons r rr =>
      rw [oDD_rep rr, List.map_cons]
      cases u with
      | none => cases r; rfl
      | some a => cases r; rfl
section
variable {X : Cx} {cl : ClsT} {H0 : Hp} {C0 : CH} {Ca fa : Addr} {fd : FuncData} {ps : List Str} {sp : Sp} {k : Nat} {g : List Src} {gV : List V → List V → List V}
/-- item after item: None, or an object whose own == answers False -/
def inOR (K : PySem.W.Frag) (Ca : Addr) (sp : Sp) (gV : List V → List V → List V) (a : Addr) (z : Str) (vs : List V) (Q : Hp → Prop) : List (Option Addr) → Hp → Prop
  | [], H => Q H
  | none :: r, H => inOR K Ca sp gV a z vs Q r H
  | some b :: r, H => ∃ dx fs, H b = some (.ins Ca dx fs) ∧ sp (gV [.ref b, .str z] []) H (fun v H' => v = .bl false ∧ SqL K H' a vs ∧ inOR K Ca sp gV a z vs Q r H') fun _ _ _ => False
def rNotInO (K : PySem.W.Frag) (Ca : Addr) (sp : Sp) (gV : List V → List V → List V) : R2 := fun x y H Q => ∃ z a us, x = .str z ∧ y = .ref a ∧ (PyData.str z).canLay0 = true ∧ SqL K H a (us.map oV) ∧ inOR K Ca sp gV a z (us.map oV) (fun H' => Q (.bl true) H') us H
theorem own_runS {A : Around} {pins : List (Addr × Obj)} {s : Shared} {σ : L2.St} {H : Hp} {a : Addr} {z : Str} {t : Tok} {Q : VK} {gv : List Value → List Value → List Value} (F : FnOkG X.prog X.w X.K X.mg X.base (L2.CX X.prog X.w) k fa fd ps sp) (hr : Room k A) (hg : A.guards = some []) (hfr : A.frames = X.A.frames)
    (hb : BindsTo s fd ⟨[.ref a, .str z t], []⟩ (ps.zip (gv [.ref a, .str z t] []))) (hv : Vals (gV [.ref a, .str z] []) (gv [.ref a, .str z t] [])) (I : Inv X pins σ H s)
    (h : sp (gV [.ref a, .str z] []) H Q fun _ _ _ => False) : wpAny (model X.prog X.w) A (call (.ref fa) [.ref a, .str z t]) (EP X pins σ Q) X.xe s := by
  have e0 : Env0 X.prog X.w X.K X.mg X.base A X.stack s H := by
    have e := I.env0
    exact ⟨by rw [hfr]; exact e.frames, e.mod, e.bs, e.bsz, e.funs, e.frf, e.hok, e.bare⟩
  refine wpAny_call (codeAny_mono (F.run A X.stack s H ⟨[.ref a, .str z t], []⟩ _ _ Q (fun _ _ _ => False) hr hg e0 hb hv h) fun r s' hq => ?_)
  match r, hq with
  | .error e, hq => obtain ⟨_, _, _, _, _, _, _, _, _, _, _, _, z⟩ := hq; exact z.elim
  | .ok (.ret u), hq => exact I.after hq
theorem notFirst_str {K : PySem.W.Frag} {C : Addr} : PySem.W.notFirst K C (.type "str") = true := by
  unfold PySem.W.notFirst PySem.W.subIn
  rfl
theorem op_notInO {gv : List Value → List Value → List Value} (O : OwnE X.K Ca fa) (F : FnOkG X.prog X.w X.K X.mg X.base (L2.CX X.prog X.w) k fa fd ps sp) (hr : Room (k + 1) X.A) (hg : X.A.guards = some []) (hb : ∀ (s : Shared) (us : List Value), X.K.In s.heap → us.length = 2 → BindsTo s fd ⟨us, []⟩ (ps.zip (gv us [])))
    (hv : ∀ {vs us zs ws}, Vals vs us → Vals zs ws → Vals (gV vs zs) (gv us ws)) : OpR X (compareOp .NotIn) (rNotInO X.K Ca sp gV) := by
  intro pins s σ H x y v u Q I rx ry ⟨z, a, us, ex, ey, hz0, ha, hs⟩
  subst ex; subst ey
  cases ry
  obtain ⟨t, rfl⟩ := rx
  refine L3N.notIn_listK (items := (us.map oVal).toArray) ⟨fun i s' => ∃ H', Inv X pins σ H' s' ∧ SqL X.K H' a (us.map oV) ∧ inOR X.K Ca sp gV a z (us.map oV) (fun H'' => Q (.bl true) H'') (us.drop i) H', ⟨H, I, ha, hs⟩, ?_, ?_, ?_⟩
  · rintro i s' ⟨H', I', ha', _⟩
    obtain ⟨its, r, ⟨o, n, ho, hc, hd0, hd⟩, hz⟩ := I'.list ha'
    rw [oV_vals r] at hd
    exact ⟨o, ho, hc, n, hd⟩
  · rintro j hj s' ⟨H', I', ha', hi⟩
    have hj' : j < us.length := by simpa using hj
    rw [List.drop_eq_getElem_cons hj'] at hi
    have ei : ((us.map oVal).toArray)[j] = oVal us[j] := by simp
    rw [ei]
    cases eu : us[j] with
    | none =>
      rw [eu] at hi
      refine (SeqAt.eqAt_reads .none (.str z) X.A.in1 s' .none (.str z t) [] [] .none (.str z t) rfl hz0 ?_) _ _ _ _ ⟨?_, ⟨H', I', ha', hi⟩⟩
      · have := hr.un
        have e1 : X.A.in1.units = X.A.units + 1 := rfl
        have e2 : X.A.in1.in1.units = X.A.units + 2 := rfl
        simp only [PyData.depth]
        omega
      · rfl
    | some b =>
      rw [eu] at hi
      obtain ⟨dx, fs, hb1, hs1⟩ := hi
      obtain ⟨mA, J, _⟩ := ins_get I'.hok hb1
      obtain ⟨od, J, _⟩ := J.look
      obtain ⟨m, hF⟩ := I'.fr
      unfold eqBool
      refine wpAny_holding ?_
      show wpAny _ _ (if (Value.ref b == Value.str z t) = true then _ else _) _ _ _
      rw [if_neg (by simp)]
      refine wpAny_bind (PySem.W.cmp_K (op := .Eq) (tb := .type "str") hr.in1.units0 hF I'.ok.mod.kin J ?_ notFirst_str O.eq O.fn ?_)
      · exact PySem.W.Looks.of_pure rfl
      · refine wpAny_mono (own_runS F hr.in1 hg rfl (hb s' _ I'.kIn rfl) (hv (.cons (show RelV (V.ref b) (Value.ref b) from rfl) (.cons (show RelV (V.str z) (Value.str z t) from ⟨t, rfl⟩) .nil)) .nil) I' hs1) (fun w s2 q => ?_) fun _ _ e => e
        obtain ⟨zz, H2, I2, rz, rfl, ha2, hi2⟩ := q
        cases rz
        exact wpAny_truthy_bool ⟨rfl, H2, I2, ha2, hi2⟩
  · rintro s' ⟨H', I', ha', hi⟩
    rw [List.drop_of_length_le (by simp)] at hi
    exact ⟨rfl, .bl true, H', I', rfl, hi⟩
/-- D: item after item -/
def inOC (c : Nat) (sem : SemF) (g : List Src) (a : Addr) (z : Str) (ds : List D) (Q : CH → Prop) : List (Option Addr) → CH → Prop
  | [], C => Q C
  | none :: r, C => inOC c sem g a z ds Q r C
  | some b :: r, C => ∃ fs, C b = some (.ins c fs) ∧ sem (gath g [.ref b, .str z] []) C (fun d C' => d = .bl false ∧ LsC C' a ds ∧ inOC c sem g a z ds Q r C') fun _ _ => False
def oNotInO (c : Nat) (sem : SemF) (g : List Src) : O2 := fun x y C Q => ∃ z a us, x = .str z ∧ y = .ref a ∧ (PyData.str z).canLay0 = true ∧ LsC C a (us.map oDD) ∧ inOC c sem g a z (us.map oDD) (fun C' => Q (.bl true) C') us C
theorem lk_inO {c np : Nat} {sem : SemF} {a : Addr} {z : Str} {us0 : List (Option Addr)} {Qc : CH → Prop} {Q : Hp → Prop} (hc : cl c = some Ca) (hl : g.length = np) (b3 : ∀ H ds vs es zs, ds.length = 2 → es.length = 0 → RepL X.K H ds vs → RepL X.K H es zs → RepL X.K H (gath g ds es) (gV vs zs)) :
    ∀ (us : List (Option Addr)) (H : Hp) (C : CH), Rel X.K cl H C → (∀ H' C', Qc C' → Rel X.K cl H' C' → Keep H C H' C' → Q H') → inOC c sem g a z (us0.map oDD) Qc us C → inOR X.K Ca (spC X.K cl np sem) gV a z (us0.map oV) Q us H
  | [], H, C, R, hq, h => hq H C h R Keep.refl
  | none :: r, H, C, R, hq, h => lk_inO hc hl b3 r H C R hq h
  | some b :: r, H, C, R, hq, h => by
    obtain ⟨fs, h1, h2⟩ := h
    obtain ⟨Ca1, dx, fv, hc1, g1, _⟩ := R b _ h1
    rw [hc] at hc1
    cases hc1
    refine ⟨dx, fv, g1, _, C, _, _, b3 H [.ref b, .str z] _ [] _ rfl rfl (.cons (.ref b) (.cons (.str z) .nil)) .nil, ?_, R, h2, ?_, fun _ _ _ _ _ z => z.elim⟩
    · simp only [gath, List.length_map]; exact hl
    · intro d' C' v' H' ⟨et, el, qt⟩ rv R' kk
      subst et
      cases rv
      obtain ⟨vs', s1, r1⟩ := R'.ls el
      rw [oDD_rep r1] at s1
      exact ⟨rfl, s1, lk_inO hc hl b3 r H' C' R' (fun H2 C2 q2 R2 k2 => hq H2 C2 q2 R2 (kk.trans k2)) qt⟩
theorem lk_notInO {c np : Nat} {sem : SemF} (hc : cl c = some Ca) (hl : g.length = np) (b3 : ∀ H ds vs es zs, ds.length = 2 → es.length = 0 → RepL X.K H ds vs → RepL X.K H es zs → RepL X.K H (gath g ds es) (gV vs zs)) : Lk2 X.K cl (rNotInO X.K Ca (spC X.K cl np sem) gV) (oNotInO c sem g) :=
  fun H C d e v u Q Qc rd re R ⟨z, a, us, e1, e2, hz, h1, h2⟩ hq => by
    subst e1; subst e2
    cases rd; cases re
    obtain ⟨vs', s1, r1⟩ := R.ls h1
    rw [oDD_rep r1] at s1
    exact ⟨z, a, us, rfl, rfl, hz, s1, lk_inO hc hl b3 us H C R (fun H' C' q R' k' => hq _ _ _ _ q (.bl true) R' k') h2⟩
end
section
variable {X : Cx} {cl : ClsT} {H0 : Hp} {C0 : CH} {ca cb : CTE} {a b : Expr} {pos : Pos} {Ca fa : Addr} {fd : FuncData} {ps : List Str} {k c np : Nat} {sem : SemF} {g : List Src}
theorem cpe_notInO (hc : cl c = some Ca) (O : OwnE X.K Ca fa) (F : FnOkG X.prog X.w X.K X.mg X.base (L2.CX X.prog X.w) k fa fd ps (spC X.K cl np sem)) (hr : Room (k + 1) X.A) (hg : X.A.guards = some []) (hb : BindsC X.K fd ps 2 [] g) (hl : g.length = np) (ha : CPE X cl H0 C0 a ca) (hb' : CPE X cl H0 C0 b cb) (hm : behindInMarks .NotIn b = false) :
    CPE X cl H0 C0 (.Compare a [.NotIn] [b] pos) (cBin (oNotInO c sem g) ca cb) := by
  obtain ⟨gv, gV, b1, b2, b3⟩ := hb
  exact cpe_cmp (op_notInO O F hr hg (fun s us hk hl => by have := b1 s us [] hk hl rfl; simpa using this) b2) (lk_notInO hc hl b3) ha hb' hm
theorem cpt_notInO (hc : cl c = some Ca) (O : OwnE X.K Ca fa) (F : FnOkG X.prog X.w X.K X.mg X.base (L2.CX X.prog X.w) k fa fd ps (spC X.K cl np sem)) (hr : Room (k + 1) X.A) (hg : X.A.guards = some []) (hb : BindsC X.K fd ps 2 [] g) (hl : g.length = np) (ha : CPE X cl H0 C0 a ca) (hb' : CPE X cl H0 C0 b cb) (hm : behindInMarks .NotIn b = false) :
    CPT X cl H0 C0 (.Compare a [.NotIn] [b] pos) (cTst (cBin (oNotInO c sem g) ca cb)) := by
  obtain ⟨gv, gV, b1, b2, b3⟩ := hb
  exact cpt_cmp (op_notInO O F hr hg (fun s us hk hl => by have := b1 s us [] hk hl rfl; simpa using this) b2) (lk_notInO hc hl b3) ha hb' hm
end
end L3

/-! len(set(names)) of a tuple of names -/
namespace L3S
open PySem PySem.Spec PyProof.Rows SS
/-- how many different ones are among the first i -/
def cntD (zs : List Str) : Nat → Nat
  | 0 => 0
  | i + 1 => if zs.getD i Str.empty ∈ zs.take i then cntD zs i else cntD zs i + 1
theorem cntD_le (zs : List Str) : ∀ i, cntD zs i ≤ i
  | 0 => Nat.le_refl _
  | i + 1 => by
    have := cntD_le zs i
    simp only [cntD]; split <;> omega
theorem take_add {zs : List Str} {i : Nat} (h : i < zs.length) : zs.take (i + 1) = zs.take i ++ [zs.getD i Str.empty] := by
  rw [List.take_add_one, List.getElem?_eq_getElem h, List.getD_eq_getElem?_getD, List.getElem?_eq_getElem h]; rfl
section
variable {pr : Program} {wd : World} {B : Around} {Rs : Result → Shared → Prop} {it : Addr} {us vs : List Addr} {Gn : Array GenState → Array GenState → Prop} {m : Nat} {Pi : Nat → Value → Prop} {Si : Nat → Shared → Prop}
/-- names are put into a set, one after the other -/
theorem fill_names (Wk : WalksS pr wd B.in1 it us vs Gn m Pi Si) (a : Addr) (ha : a ∉ us) (zs : List Str) (hz : zs.length = m) (hm : m + 1 < scanBound) (hv : ∀ i v, Pi i v → ∃ t, v = .str (zs.getD i Str.empty) t) :
    ∀ (j i : Nat) (s : Shared), m - i = j → i ≤ m → Si i s → s.heap.SetOf (strKind pr wd) a (fun z => decide (z ∈ zs.take i)) (cntD zs i) →
      (∀ s', Moved (a :: vs) Gn s s' → s'.heap.SetOf (strKind pr wd) a (fun z => decide (z ∈ zs.take m)) (cntD zs m) → Rs (.ok (.ret .none)) s') → codeAny (model pr wd) B (.builtin "set.update.loop" ⟨[.ref a, .ref it], []⟩) Rs s := by
  have av : a ∉ vs := fun z => ha (Wk.sub _ z)
  have up : ∀ b ∈ vs, b ∈ a :: vs := fun _ z => List.mem_cons_of_mem _ z
  intro j
  induction j with
  | zero =>
    intro i s e1 e2 si so fin
    obtain rfl : i = m := by omega
    refine codeAny_builtin F.entry_set_update_loop ?_; rw [Around.under_plainId F.plain_set_update_loop _]; show wpAny _ _ (pyNext (.ref it) >>= _) _ _ _
    refine wpAny_bind (Wk.done _ _ _ si fun s1 mv => (show wpAny _ _ (ret Value.none) _ _ _ from wpAny_pure (fin s1 (mv.mono up) ?_)))
    obtain ⟨o, x1, x2, x3, x4, x5⟩ := so
    exact ⟨o, x1, x2, x3, mv.heap a _ av x4, x5⟩
  | succ j ih =>
    intro i s e1 e2 si so fin
    have lt : i < m := by omega
    refine codeAny_builtin F.entry_set_update_loop ?_; rw [Around.under_plainId F.plain_set_update_loop _]; show wpAny _ _ (pyNext (.ref it) >>= _) _ _ _
    refine wpAny_bind (Wk.item i _ _ _ lt si fun v s1 pv si1 mv => ?_)
    obtain ⟨t, rfl⟩ := hv i v pv
    have so1 : s1.heap.SetOf (strKind pr wd) a (fun z => decide (z ∈ zs.take i)) (cntD zs i) := by
      obtain ⟨o, x1, x2, x3, x4, x5⟩ := so
      exact ⟨o, x1, x2, x3, mv.heap a _ av x4, x5⟩
    show wpAny _ _ (holding [Value.str (zs.getD i Str.empty) t] (setAdd a (.str (zs.getD i Str.empty) t)) >>= _) _ _ _
    refine wpAny_bind (wpAny_holding ?_)
    unfold setAdd
    refine wpAny_holding (wpAny_bind ((strKind pr wd).pyHash (k := zs.getD i Str.empty) (strKind_is _ _ _ _) ?_))
    have c1 := cntD_le zs i
    refine wpAny_setAddHashed_of (knd := strKind pr wd) (s := { s1 with toks := s1.toks + 1 }) (strKind_is _ _ _ _) rfl so1 (by omega) fun hp sb so2 => ?_
    have so3 : hp.SetOf (strKind pr wd) a (fun z => decide (z ∈ zs.take (i + 1))) (cntD zs (i + 1)) := by
      refine SetOf_congr so2 (fun z => ?_) ?_
      · rw [take_add (by omega)]
        simp [List.mem_append]
      · simp only [cntD, decide_eq_true_eq]
    refine wpAny_pure ⟨plainId_quiet F.plain_set_update_loop _, ih (i + 1) _ (by omega) lt (Wk.frame _ s1 _ _ si1 (Nat.le_succ _) fun b hb o x => (sb.2 b fun z => ha (z ▸ hb)).trans x) so3 fun s2 mv2 so4 => ?_⟩
    exact fin s2 (Moved.trans Wk.gtrans ((mv.mono up).then_heap (Nat.le_succ _) fun b o hb x => (sb.2 b fun z => hb (z ▸ List.mem_cons_self)).trans x) mv2) so4
end
section
variable {pr : Program} {wd : World} {B : Around} {E : Value → Shared → Prop} {s : Shared}
abbrev fr (led : Bool) : Obj := { cls := .type "set", dict := none, data := .set #[] 0 (.fresh 0 0 led) }
set_option maxHeartbeats 3200000 in
/-- set(t) of a tuple of names -/
theorem call_names {l : Addr} {xs : Array Value} {zs : List Str} {Q : Value → Shared → Prop} (hh : B.handled = none) (hl : s.heap.IsTuple l xs) (hi : StrsAre xs.toList zs) (hb : zs.length + 1 < scanBound)
    (h : ∀ (hp : Heap) (tk : Nat), hp.SetOf (strKind pr wd) s.heap.objs.size (fun z => decide (z ∈ zs)) (cntD zs zs.length) → (∀ b o, s.heap.get? b = some o → hp.get? b = some o) → Q (.ref s.heap.objs.size) { s with heap := hp, toks := tk }) :
    wpAny (model pr wd) B (call (.type "set") [.ref l]) Q E s := by
  have sz : zs.length = xs.size := by rw [← StrsAre.len_eq hi, Array.length_toList]
  obtain ⟨cc, tl, m0⟩ := PySem.F.called_set.mro
  have m1 := PySem.F.called_set.made; have m2 := PySem.F.called_set.sub
  have m3 := PySem.F.called_set.notType; have m4 := PySem.F.called_set.canCreate; have m5 := PySem.F.typeCall_set_1 (.ref l)
  refine wpAny_call (codeAny_of_tree (show wpAny _ _ (callAny (.type "set") _) _ _ _ from wpAny_pure ⟨Code.quiet_builtin _ (by decide +kernel), codeAny_builtin PySem.F.entry_type_call ?_⟩))
  rw [show B.under (.builtin "type.__call__" ⟨[.type "set", .ref l], []⟩) = B.in1 from Around.under_plain (weight_type_call_type "set" [.ref l] []) rfl]
  repeat (any_goals (first | assumption | wp_step))
  refine codeAny_mono (code_set_new_1 (.ref l) (E := E) (Q₁ := fun ob s1 => ∃ led, ob = .ref s.heap.objs.size ∧ s1 = { s with heap := s.heap.push (fr led) }) fun led => ⟨led, rfl, rfl⟩) fun r s1 hr => ?_
  match r, hr with
  | .error e, hr => exact hr
  | .ok (.ret ob), ⟨led, e1, e2⟩ =>
    subst e1; subst e2
    have g0 : (s.heap.push (fr led)).get? s.heap.objs.size = some (fr led) := Heap.get?_push_size _ rfl
    have T0 : Shared.TypeIs { s with heap := s.heap.push (fr led) } (.ref s.heap.objs.size) "set" := ⟨_, g0, rfl⟩
    have i1 := PySem.F.called_set.init.lookup; have i2 := PySem.F.called_set.init.bind (.ref s.heap.objs.size)
    repeat (any_goals (first | assumption | wp_step))
    refine codeAny_mono (codeAny_call_builtin (R := wants (fun r s2 => r = .none ∧ ∃ hp tk, s2 = { s with heap := hp, toks := tk } ∧ hp.SetOf (strKind pr wd) s.heap.objs.size (fun z => decide (z ∈ zs)) (cntD zs zs.length) ∧
      ∀ b o, s.heap.get? b = some o → hp.get? b = some o) E) PySem.F.called_set.init.plain PySem.F.entry_set_init (check_set_init_1 T0 ?_)) fun r2 s2 h2 => ?_
    · obtain ⟨⟨ocl, odi, oda, osl⟩, gl, ocl1, nn, oda1⟩ := hl
      simp only at ocl1 oda1
      subst ocl1 oda1
      have gl1 : (s.heap.push (fr led)).get? l = some ⟨.type "tuple", odi, .seq xs nn, osl⟩ := Heap.get?_push_of_some _ gl
      have n1 := PySem.F.sub_tuple_set; have n2 := PySem.F.sub_tuple_frozenset; have n3 : (Value.type "tuple" == Value.type "dict") = false := by decide
      have tl1 : (s.heap.push (fr led)).IsTuple l xs := ⟨_, gl1, rfl, nn, rfl⟩
      have l0 : l < s.heap.objs.size := Heap.lt_size gl
      have z1 : (s.heap.push (fr led)).objs.size = s.heap.objs.size + 1 := Heap.size_push ..
      unfold Builtin.«set.__init__» noKeywords Builtin.Frozenset.updateFrom
      generalize pq : pyIter = pit
      wp_walk
      subst pq
      refine wpAny_pyIter_tuple tl1 (wpAny_bind (wpAny_runValue ?_))
      have f1 : l ≠ (s.heap.push (fr led)).objs.size := by rw [z1]; exact Nat.ne_of_lt (Nat.lt_succ_of_lt l0)
      have f2 : s.heap.objs.size ∉ [(s.heap.push (fr led)).objs.size, l] := by
        rw [z1]; simp only [List.mem_cons, List.not_mem_nil, or_false, not_or]; exact ⟨Nat.ne_of_lt (Nat.lt_succ_self _), Nat.ne_of_gt l0⟩
      refine fill_names ((Walks.tuple (show B.in1.in1.in1.handled = none by simp [hh]) _ l f1 xs).toS) s.heap.objs.size f2 zs sz (by omega) (fun i v e => strs_at hi i v (by rw [Array.getElem?_toList]; exact e)) (xs.size - 0) 0 _ (by omega) (Nat.zero_le _)
        ⟨⟨_, Heap.get?_push_size _ rfl, rfl, rfl⟩, tl1.push _⟩ ?st ?en
      case st =>
        have g2 : ((s.heap.push (fr led)).push { cls := .type "tuple_iterator", data := .fields #[.ref l, .int 0 0] }).get? s.heap.objs.size = some (fr led) := Heap.get?_push_of_some _ g0
        exact SetOf_congr ((setObjOf_fresh (knd := strKind pr wd) led).setOf g2 (by unfold scanBound; omega)) (fun z => by simp) rfl
      case en =>
        rintro ⟨hp, gn, dr, tk, os⟩ mv so
        have e1 : gn = s.gens := mv.gens; have e2 : dr = s.drawn := mv.drawn; have e3 : os = s.os := mv.os
        subst e1 e2 e3
        refine (show wpAny _ _ (pure _) _ _ _ from wpAny_pure (show wpAny _ _ (ret Value.none) _ _ _ from wpAny_pure ⟨rfl, hp, tk, rfl, ?_, fun b o e => ?_⟩))
        · have e4 : zs.take xs.size = zs := List.take_of_length_le (by omega)
          rw [e4, ← sz] at so
          exact so
        · have b0 : b < s.heap.objs.size := Heap.lt_size e
          refine mv.heap b o ?_ (Heap.get?_push_of_some _ (Heap.get?_push_of_some _ e))
          simp only [List.mem_cons, List.not_mem_nil, or_false, not_or]
          exact ⟨Nat.ne_of_lt b0, by rw [z1]; exact Nat.ne_of_lt (Nat.lt_succ_of_lt b0)⟩
    · match r2, h2 with
      | .error e, h2 => exact h2
      | .ok (.ret u), ⟨e1, hp, tk, e2, so, k2⟩ =>
        subst e1; subst e2
        repeat (any_goals (first | assumption | wp_step))
        exact h _ _ so k2
end
end L3S

/-! len(set(names)); D.get(word, x) of a written dict; e.f += i -/
namespace L3
open PySem L2 PySem.Spec PyProof.Rows L3S
section
variable {X : Cx} {cl : ClsT} {H0 : Hp} {C0 : CH} {ca co : CTE} {a e o : Expr} {pos : Pos}
/-- len(set(xs)) of a tuple of names -/
def tLenN (K : PySem.W.Frag) (ta : TE) : TE := fun σ H Q => ta σ H fun x H1 => ∃ l zs, x = .ref l ∧ SqT K H1 l (zs.map V.str) ∧ zs.length + 1 < scanBound ∧ Q (.int (cntD zs zs.length : Nat)) H1
theorem pe_lenN {ta : TE} {p p2 q : Pos} (hc : X.calm = true) (hg : Gl X "len") (hm : X.mg "len" = none) (hg2 : Gl X "set") (hm2 : X.mg "set" = none) (ha : PE X a ta) (na : starEach [a] X.env = (false, eval a X.env) :: starEach [] X.env) :
    PE X (.Call (.Name "len" p) [.Call (.Name "set" p2) [a] [] q] [] pos) (tLenN X.K ta) := by
  refine ⟨fun pins s σ H Q I h => Call_ (ld_blt I hg hm boot_len ?_)⟩
  refine callWith_builtin1 (args_cons (Call_ (ld_blt I hg2 hm2 boot_set ?_)) rfl) rfl rfl
  refine callWith_type1 (args_cons (thn (ha.run pins s σ H _ I h) fun v s1 ⟨x, H1, I1, r1, l, zs, e1, hq, hb, q1⟩ => args_nil ?_) na) na rfl
  subst e1
  cases r1
  obtain ⟨its, r, pl, hz⟩ := I1.tuple hq
  refine call_names (I1.ok.hd hc) pl (by simpa using strsAre_of r) hb fun hp tk so kp => args_nil ?_
  obtain ⟨ob, es, ep, t, ho, hex, hd, _, _, hsb, hf, hn⟩ := so
  have I2 : Inv X pins σ H1 { s1 with heap := hp, toks := tk } := I1.kept fun b u x => kp b u x
  refine call_len_set ho hex hd hf ?_ ⟨.int (cntD zs zs.length : Nat), H1, I2.tok _, ⟨_, by rw [hn]⟩, q1⟩
  have := cntD_le zs zs.length
  unfold scanBound at hb
  rw [hn]; omega
def cLenN (a : CTE) : CTE := fun σ C Q => a σ C fun d C1 => ∃ zs : List Str, d = .tup (zs.map D.str) ∧ zs.length + 1 < scanBound ∧ Q (.int (cntD zs zs.length : Nat)) C1
theorem strs_rep {K : PySem.W.Frag} {H : Hp} : ∀ {zs : List Str} {vs : List V}, RepL K H (zs.map D.str) vs → vs = zs.map V.str
  | [], _, h => by cases h; rfl
  | z :: zs, _, h => by
    cases h with
    | cons r rr => cases r; rw [strs_rep rr]; rfl
theorem cpe_lenN {p p2 q : Pos} (hc : X.calm = true) (hg : Gl X "len") (hm : X.mg "len" = none) (hg2 : Gl X "set") (hm2 : X.mg "set" = none) (ha : CPE X cl H0 C0 a ca) (na : notStar a = true) :
    CPE X cl H0 C0 (.Call (.Name "len" p) [.Call (.Name "set" p2) [a] [] q] [] pos) (cLenN ca) :=
  (pe_lenN hc hg hm hg2 hm2 ha (star_of na)).imp fun σ H Q ⟨σc, C, Qc, S, h, hq⟩ => ⟨σc, C, _, S, h, fun d C1 v H1 ⟨zs, e1, hb, q1⟩ rv R1 k1 => by
    subst e1
    cases rv with
    | tup sq rs =>
      rw [strs_rep rs] at sq
      exact ⟨_, zs, rfl, sq, hb, hq _ _ _ _ q1 (.int _) R1 k1⟩⟩
/-- o.f += an int -/
def sFldPlus (f : Str) (ok : Nat → Prop) (o a : CTE) : CTS := fun D σ C => o σ C fun d C1 => ∃ p c fs i, d = .ref p ∧ C1 p = some (.ins c fs) ∧ ok c ∧ fs.lookup f = some (.int i) ∧
  a σ C1 fun y C2 => ∃ j fs', y = .int j ∧ C2 p = some (.ins c fs') ∧ fs'.length < 1000 ∧ D.nx σ (cup C2 p (.ins c (putD f (.int (i + j)) fs')))
theorem cps_fldplus {f : Str} {ok : Nat → Prop} {tp : Pos} (hok : ∀ c Ca, ok c → cl c = some Ca → Cls X.K Ca ∧ NoAttr X.K Ca f) (ho : CPE X cl H0 C0 o co) (he : CPE X cl H0 C0 e ca) : CPS X cl H0 C0 (.AugAssign (.Attribute o f tp) .Add e pos) (sFldPlus f ok co ca) :=
  (ps_fldaug ho he in_add).imp fun D σ H ⟨σc, C, Dc, S, h, hq⟩ => ⟨σc, C, _, S, h, fun d C1 v H1 ⟨p, c, fs, i, e1, h1, k1, l1, q1⟩ rv R1 kp1 => by
    subst e1
    cases rv
    obtain ⟨Ca, dx, fv, hc, g1, rf⟩ := R1 p _ h1
    obtain ⟨k3, k4⟩ := hok c Ca k1 hc
    obtain ⟨w, lw, rw_⟩ := rf.lookup l1
    cases rw_
    refine ⟨p, Ca, dx, fv, .int i, rfl, g1, k3, k4, lw, σc, C1, _, S.step kp1 R1, q1, fun y C2 u H2 ⟨j, fs', e2, h2, z2, q2⟩ ru R2 kp2 => ?_⟩
    subst e2
    cases ru
    obtain ⟨Ca2, dx2, fv2, hc2, g2, rf2⟩ := R2 p _ h2
    rw [hc] at hc2
    cases hc2
    have kw : Keep H2 C2 (upd H2 p (.ins Ca dx2 (L2.putF f (.int (i + j)) fv2))) (cup C2 p (.ins c (putD f (.int (i + j)) fs'))) := Keep.write h2 _ _
    refine ⟨i, j, rfl, rfl, dx2, fv2, g2, by rw [← rf2.length]; exact z2, hq.nx _ _ _ _ q2 ((((S.step kp1 R1).step kp2 R2).s).keep R2 kw) (R2.write h2 g2 (fun xs z => ?_) ⟨Ca, dx2, _, hc, upd_same, ((RepF.putD (.int (i + j)) rf2).keep R2 kw)⟩) ((kp1.trans kp2).trans kw)⟩
    rcases z with z | ⟨u, z⟩ <;> (rw [g2] at z; cases z)⟩
/-- a written dict that tells names -/
structure WDct (K : PySem.W.Frag) (w : World) (p : Addr) (tab : List (Str × Int)) : Prop where
  big : p ≠ sysModules
  at_ : ∀ z i, tab.lookup z = some i → KDct K w p z (.int i)
def tGetW (K : PySem.W.Frag) (w : World) (p : Addr) (ta tb : TE) : TE := fun σ H Q => ta σ H fun x H1 => tb σ H1 fun y H2 => ∃ (z : Str) (v : V), x = .str z ∧ KDct K w p z v ∧ Q v H2
theorem pe_getW {p : Addr} {n : Str} {np ap cp : Pos} {b : Expr} {ta tb : TE} (hg : Gl X n) (hm : X.mg n = some (.ref p)) (hp : p ≠ sysModules) (ha : PE X a ta) (hb : PE X b tb) (nd : (n == ("__debug__" : Str)) = false)
    (h1 : attributeBase (.Name n np) "get" X.env (eval (.Name n np) X.env) = eval (.Name n np) X.env) (h2 : (ap.endLine == cp.line) = true) (s1 : starEach [a, b] X.env = (false, eval a X.env) :: starEach [b] X.env) (s2 : starEach [b] X.env = [(false, eval b X.env)])
    (few : ((backTo cp (starEach [a, b] X.env)).all (fun x => !x.1) && (backToKw cp (keywordEach [] X.env)).all (fun x => x.1.isSome) && decide (([a, b] : List Expr).length + ([] : List Keyword).length + (if ([] : List Keyword).isEmpty then 0 else 1) < 30)) = true)
    (ex : ∃ es m, X.K.lookup p = some ⟨.type "dict", none, .dict es m, #[]⟩) :
    PE X (.Call (.Attribute (.Name n np) "get" ap) [a, b] [] cp) (tGetW X.K X.w p ta tb) := by
  refine ⟨fun pins s σ H Q I h => wpAny_Call_method h1 few h2 F.plainAttrs_dict F.slot_dict_get F.type_dict_get (thn ((pe_glob (v := .ref p) hg hm rfl nd).run pins s σ H (fun v H1 => v = .ref p ∧ H1 = H) I ⟨rfl, rfl⟩) fun u s1' ⟨x, H1, I1, rx, e1, e2⟩ => ?_)⟩
  subst e1; subst e2
  obtain rfl : u = Value.ref p := rx
  obtain ⟨es0, m0, k0⟩ := ex
  have g0 := I1.kIn p _ k0
  refine ⟨⟨_, g0, rfl⟩, fun c e => by cases e; exact ⟨_, g0, rfl⟩, ?_⟩
  have tr : backTo cp (starEach [a, b] X.env) = [(false, eval a X.env), (false, eval b X.env)] := by rw [s1, s2]; rfl
  rw [tr]
  refine Calls.callWith_builtin rfl (Calls.evalArgs_plain (Calls.spliced_cons (thn (ha.run pins s1' σ _ _ I1 h) fun u1 s2' ⟨y, H2, I2, ry, q2⟩ => Calls.spliced_cons (thn (hb.run pins s2' σ H2 _ I2 q2) fun u2 s3 ⟨d, H3, I3, rd, z, v, e3, kd, q3⟩ => Calls.spliced_nil ?_))))
  subst e3
  obtain ⟨t, rfl⟩ := ry
  obtain ⟨es, m, w0, l1, l2, l3, l4⟩ := kd
  have mp := PySem.W.mapOf_K (prog := X.prog) (w := X.w) I3.kIn l1 l2
  refine call_meetsIn F.slot_dict_get mp.typeIs F.entry_dict_get (F.args_dict_get_3 _ _ _) (meets_dict_get_default (strKind X.prog X.w) p (strKind_is X.prog X.w z t) (beq_eq_false_iff_ne.mpr hp) u2) ⟨_, mp, v, H3, I3.tok _, ?_, q3⟩
  rw [PySem.W.find_K l1 l3]
  exact l4
/-- str(i) -/
def oStrI : OL := fun xs C Q => ∃ i : Int, xs = [.int i] ∧ i.natAbs.log2 < 1920 ∧ Q (.str (toString i)) C
theorem lk_strI {K : PySem.W.Frag} : LkL K cl (fun xs H Q => ∃ i : Int, xs = [.int i] ∧ i.natAbs.log2 < 1920 ∧ Q (.str (toString i)) H) oStrI := fun H C ds vs Q Qc rs R ⟨i, h1, h2, q⟩ hq => by
  subst h1
  cases rs with
  | cons r rr => cases r; cases rr; exact ⟨i, rfl, h2, hq.now q (.str _) R⟩
def cGetW (tab : List (Str × Int)) (a b : CTE) : CTE := fun σ C Q => a σ C fun d C1 => b σ C1 fun _ C2 => ∃ z i, d = .str z ∧ tab.lookup z = some i ∧ Q (.int i) C2
theorem cpe_getW {p : Addr} {n : Str} {np ap cp : Pos} {b : Expr} {cb : CTE} {tab : List (Str × Int)} (hg : Gl X n) (hm : X.mg n = some (.ref p)) (D : WDct X.K X.w p tab) (ex : ∃ es m, X.K.lookup p = some ⟨.type "dict", none, .dict es m, #[]⟩) (ha : CPE X cl H0 C0 a ca) (hb : CPE X cl H0 C0 b cb)
    (nd : (n == ("__debug__" : Str)) = false) (h2 : (ap.endLine == cp.line) = true) (sa : notStar a = true) (sb : notStar b = true) : CPE X cl H0 C0 (.Call (.Attribute (.Name n np) "get" ap) [a, b] [] cp) (cGetW tab ca cb) :=
  (pe_getW hg hm D.big ha hb nd (base_of rfl) h2 (star_of sa) (star_of sb) (few_of (by simp [sa, sb]) (show 2 < 30 by decide)) ex).imp fun σ H Q ⟨σc, C, Qc, S, h, hq⟩ => ⟨σc, C, _, S, h, fun d C1 v H1 h1 rv R1 k1 => ⟨σc, C1, _, S.step k1 R1, h1, fun e C2 u H2 ⟨z, i, e1, l1, q⟩ ru R2 k2 => by
    subst e1
    cases rv
    exact ⟨z, .int i, rfl, D.at_ z i l1, hq _ _ _ _ q (.int i) R2 (k1.trans k2)⟩⟩⟩
end
theorem wdct_of {K : PySem.W.Frag} {w : World} {p : Addr} {tab : List (Str × Int)} {es : Array DictEntry} {m : Nat} (h1 : K.lookup p = some ⟨.type "dict", none, .dict es m, #[]⟩) (h2 : PySem.W.KeysLit w.params es.toList) (h3 : (p == sysModules) = false)
    (h4 : ∀ q ∈ tab, ∃ t, PySem.W.nsIn K p q.1 = some (some (.int q.2 t))) : WDct K w p tab ∧ ∃ es m, K.lookup p = some ⟨.type "dict", none, .dict es m, #[]⟩ := by
  refine ⟨⟨beq_eq_false_iff_ne.mp h3, fun z i e => ?_⟩, es, m, h1⟩
  have mem : (z, i) ∈ tab := by
    clear h4
    induction tab with
    | nil => cases e
    | cons q r ih =>
      obtain ⟨k, j⟩ := q
      rw [List.lookup_cons] at e
      split at e
      · rename_i hz
        injection e with e
        rw [← e, eq_of_beq hz]
        exact List.mem_cons_self
      · exact List.mem_cons_of_mem _ (ih e)
  obtain ⟨t, h⟩ := h4 _ mem
  exact ⟨es, m, _, h1, h2, h, t, rfl⟩
end L3

set_option maxHeartbeats 1000000
/-! set(l), sorted(set(l)) of a list of ints; str * int -/
namespace L3S
open PySem PySem.Spec PyProof.Rows
section
variable {pr : Program} {wd : World} {B : Around} {E : Value → Shared → Prop} {s : Shared}
abbrev ledW (wd : World) : Bool := !wd.params.followText "set-order"
set_option maxHeartbeats 3200000 in
/-- set(l) of a list of ints -/
theorem call_ints {l : Addr} {xs : Array Value} {zs : List Int} {Q : Value → Shared → Prop} (hh : B.handled = none) (hl : s.heap.IsList l xs) (hi : IntsAre xs.toList zs) (hb : zs.length + 1 < scanBound)
    (h : ∀ (hp : Heap) (tk n : Nat), L2.SetR wd hp s.heap.objs.size (fun z => decide (z ∈ zs)) n → n ≤ zs.length → (∀ b o, s.heap.get? b = some o → hp.get? b = some o) → Q (.ref s.heap.objs.size) { s with heap := hp, toks := tk }) :
    wpAny (model pr wd) B (call (.type "set") [.ref l]) Q E s := by
  have sz : xs.size = zs.length := by have q := IntsAre.length hi; rw [Array.length_toList] at q; exact q
  obtain ⟨cc, tl, m0⟩ := PySem.F.called_set.mro
  have m1 := PySem.F.called_set.made; have m2 := PySem.F.called_set.sub
  have m3 := PySem.F.called_set.notType; have m4 := PySem.F.called_set.canCreate; have m5 := PySem.F.typeCall_set_1 (.ref l)
  refine wpAny_call (codeAny_of_tree (show wpAny _ _ (callAny (.type "set") _) _ _ _ from wpAny_pure ⟨Code.quiet_builtin _ (by decide +kernel), codeAny_builtin PySem.F.entry_type_call ?_⟩))
  rw [show B.under (.builtin "type.__call__" ⟨[.type "set", .ref l], []⟩) = B.in1 from Around.under_plain (weight_type_call_type "set" [.ref l] []) rfl]
  repeat (any_goals (first | assumption | wp_step))
  refine codeAny_mono (L2.code_set_led1 (.ref l) (E := E) (Q₁ := fun ob s1 => ob = .ref s.heap.objs.size ∧ s1 = { s with heap := s.heap.push (fr (ledW wd)) }) ⟨rfl, rfl⟩) fun r s1 hr => ?_
  match r, hr with
  | .error e, hr => exact hr
  | .ok (.ret ob), ⟨e1, e2⟩ =>
    subst e1; subst e2
    have g0 : (s.heap.push (fr (ledW wd))).get? s.heap.objs.size = some (fr (ledW wd)) := Heap.get?_push_size _ rfl
    have T0 : Shared.TypeIs { s with heap := s.heap.push (fr (ledW wd)) } (.ref s.heap.objs.size) "set" := ⟨_, g0, rfl⟩
    have i1 := PySem.F.called_set.init.lookup; have i2 := PySem.F.called_set.init.bind (.ref s.heap.objs.size)
    repeat (any_goals (first | assumption | wp_step))
    refine codeAny_mono (codeAny_call_builtin (R := wants (fun r s2 => r = .none ∧ ∃ hp tk, s2 = { s with heap := hp, toks := tk } ∧ ∃ n, n ≤ zs.length ∧ L2.SetR wd hp s.heap.objs.size (fun z => decide (z ∈ zs)) n ∧
      ∀ b o, s.heap.get? b = some o → hp.get? b = some o) E) PySem.F.called_set.init.plain PySem.F.entry_set_init (check_set_init_1 T0 ?_)) fun r2 s2 h2 => ?_
    · obtain ⟨⟨ocl, odi, oda, osl⟩, gl, ocl1, nn, oda1⟩ := hl
      simp only at ocl1 oda1
      subst ocl1 oda1
      have gl1 : (s.heap.push (fr (ledW wd))).get? l = some ⟨.type "list", odi, .seq xs nn, osl⟩ := Heap.get?_push_of_some _ gl
      have n1 := PySem.F.sub_list_set; have n2 := PySem.F.sub_list_frozenset; have n3 : (Value.type "list" == Value.type "dict") = false := by decide
      have tl1 : (s.heap.push (fr (ledW wd))).IsList l xs := ⟨_, gl1, rfl, nn, rfl⟩
      have l0 : l < s.heap.objs.size := Heap.lt_size gl
      have z1 : (s.heap.push (fr (ledW wd))).objs.size = s.heap.objs.size + 1 := Heap.size_push ..
      unfold Builtin.«set.__init__» noKeywords Builtin.Frozenset.updateFrom
      generalize pq : pyIter = pit
      wp_walk
      subst pq
      refine wpAny_pyIter_list tl1 (wpAny_bind (wpAny_runValue ?_))
      have f1 : l ≠ (s.heap.push (fr (ledW wd))).objs.size := by rw [z1]; exact Nat.ne_of_lt (Nat.lt_succ_of_lt l0)
      have f2 : s.heap.objs.size ∉ [(s.heap.push (fr (ledW wd))).objs.size, l] := by
        rw [z1]; simp only [List.mem_cons, List.not_mem_nil, or_false, not_or]; exact ⟨Nat.ne_of_lt (Nat.lt_succ_self _), Nat.ne_of_gt l0⟩
      have vals : ∀ (i : Nat) (v : Value), xs[i]? = some v → ∃ k t, zs[i]? = some k ∧ v = .int k t := fun i v hv => by
        have lt : i < zs.length := by rw [← sz]; exact (Array.getElem?_eq_some_iff.mp hv).1
        obtain ⟨t, ht⟩ := hi.get i zs[i] (List.getElem?_eq_getElem lt)
        rw [Array.getElem?_toList, hv] at ht
        exact ⟨zs[i], t, List.getElem?_eq_getElem lt, Option.some.inj ht⟩
      have g2 : ((s.heap.push (fr (ledW wd))).push { cls := .type "list_iterator", data := .fields #[.ref l, .int 0 0] }).get? s.heap.objs.size = some (fr (ledW wd)) := Heap.get?_push_of_some _ g0
      refine L2.set_update_ints ((Walks.list (show B.in1.in1.in1.handled = none by simp [hh]) _ l f1 xs).toS) s.heap.objs.size f2 zs sz hb vals (xs.size - 0) 0 _ (by omega) (Nat.zero_le _)
        ⟨⟨_, Heap.get?_push_size _ rfl, rfl, rfl⟩, tl1.push _⟩ ⟨0, Nat.le_refl _, L2.setR_new_at g2⟩ ?en
      rintro ⟨hp, gn, dr, tk, os⟩ n mv hn so
      have e1 : gn = s.gens := mv.gens; have e2 : dr = s.drawn := mv.drawn; have e3 : os = s.os := mv.os
      subst e1 e2 e3
      refine (show wpAny _ _ (pure _) _ _ _ from wpAny_pure (show wpAny _ _ (ret Value.none) _ _ _ from wpAny_pure ⟨rfl, hp, tk, rfl, n, by omega, so, fun b o e => ?_⟩))
      have b0 : b < s.heap.objs.size := Heap.lt_size e
      refine mv.heap b o ?_ (Heap.get?_push_of_some _ (Heap.get?_push_of_some _ e))
      simp only [List.mem_cons, List.not_mem_nil, or_false, not_or]
      exact ⟨Nat.ne_of_lt b0, by rw [z1]; exact Nat.ne_of_lt (Nat.lt_succ_of_lt b0)⟩
    · match r2, h2 with
      | .error e, h2 => exact h2
      | .ok (.ret u), ⟨e1, hp, tk, e2, n, hn, so, k2⟩ =>
        subst e1; subst e2
        repeat (any_goals (first | assumption | wp_step))
        exact h _ _ n so hn k2
end
end L3S
namespace L3E
open PySem PySem.Spec PyProof.Rows L2
section
variable {X : Cx}
def rSetLI (K : PySem.W.Frag) (w : World) : List V → Hp → VK → Prop := fun vs H Q => ∃ (l : Addr) (ns : List Int), vs = [.ref l] ∧ SqL K H l (ns.map V.int) ∧ ns.length < 64 ∧
  ∀ (p : Addr) (c : Nat), H p = none → c ≤ ns.length → Q (.ref p) (upd H p (SetO w p (fun j => decide (j ∈ ns)) c))
theorem cr_setLI (hc : X.calm = true) : CallR X (.type "set") (rSetLI X.K X.w) := by
  intro pins s σ H vs us Q I r h
  obtain ⟨l, ns, rfl, hq, hl, q⟩ := h
  rw [Vals.ref1 r]
  obtain ⟨its, rv, ⟨o, n, ho, hcl, hdn, hd⟩, hz⟩ := I.list hq
  have hi : IntsAre its.toArray.toList ns := ints_of_vals rv
  refine L3S.call_ints (I.ok.hd hc) (show s.heap.IsList l its.toArray from ⟨o, ho, hcl, n, hd⟩) hi (by unfold scanBound; omega) fun h' tk c R1 hcn k => ?_
  have hn : H s.heap.objs.size = none := I.hok.fresh (Nat.le_refl _)
  have J : Inv X pins σ (upd H s.heap.objs.size (SetO X.w s.heap.objs.size (fun j => decide (j ∈ ns)) c)) { s with heap := h', gens := s.gens, drawn := s.drawn, toks := tk } :=
    I.call (ch := []) (Un.laid k (Nat.le_refl _) hn) (I.hok.laid k (Nat.le_refl _) (setO_new R1)) I.bare (fun _ z => nomatch z)
  exact ⟨.ref _, _, J, rfl, q _ c hn hcn⟩
theorem cr_setI (hc : X.calm = true) : CallR X (.type "set") (fun vs H Q => rSetTI X.K X.w vs H Q ∨ rSetLI X.K X.w vs H Q) := by
  intro pins s σ H vs us Q I r h
  rcases h with h | h
  · exact cr_setTI hc pins s σ H vs us Q I r h
  · exact cr_setLI hc pins s σ H vs us Q I r h
end
end L3E
namespace L3
open PySem PySem.Spec PyProof.Rows L2
section
variable {X : Cx} {cl : ClsT} {H0 : Hp} {C0 : CH} {e : Expr} {ca : CTE}
def cSrtA (a : CTE) : CTE := fun σ C Q => a σ C fun d C1 => ∃ ns : List Int, (d = .tup (ns.map D.int) ∨ ∃ p, d = .ref p ∧ LsC C1 p (ns.map D.int)) ∧ ns.length < 64 ∧ ∀ (ms : List Int) (p : Addr), ms.Pairwise (· < ·) → (∀ k, k ∈ ms ↔ k ∈ ns) → C1 p = none → Q (.ref p) (cup C1 p (.lst (ms.map D.int)))
theorem cpe_srtA {p p2 pos pos2 : Pos} (hc : X.calm = true) (hg : Gl X "sorted") (hm : X.mg "sorted" = none) (hg2 : Gl X "set") (hm2 : X.mg "set" = none) (he : CPE X cl H0 C0 e ca)
    (hs : starEach [e] X.env = [(false, eval e X.env)])
    (hs2 : starEach [.Call (.Name "set" p2) [e] [] pos2] X.env = [(false, eval (.Call (.Name "set" p2) [e] [] pos2) X.env)]) :
    CPE X cl H0 C0 (.Call (.Name "sorted" p) [.Call (.Name "set" p2) [e] [] pos2] [] pos) (cSrtA ca) := by
  have h1 := pe_callTy (L3E.cr_setI (X := X) hc) hg2 hm2 PyProof.Rows.boot_set (pa_cons he pa_nil hs) (pos := pos2) (p := p2) (he := hs)
  have h2 := pe_callB (cr_sortedSet (X := X) hc) hg hm PyProof.Rows.boot_sorted (pa_cons h1 pa_nil hs2) (pos := pos) (p := p) (he := hs2)
  refine h2.imp fun σ H Q ⟨σc, C, Qc, S, h, hq⟩ => ?_
  refine ⟨σc, C, _, S, h, fun d C1 v H1 ⟨ns, ed, hl, q⟩ rv R1 k1 => ?_⟩
  rcases ed with ed | ⟨a, ed, ha⟩
  · subst ed
    cases rv with
    | tup sq rr =>
      rw [repL_intsV rr] at sq
      refine .inl ⟨_, ns, rfl, sq, hl, fun p0 c hp0 hcn => ?_⟩
      have R2 := R1.newH hp0 (SetO X.w p0 (fun j => decide (j ∈ ns)) c)
      refine ⟨p0, _, c, rfl, upd_same, by omega, fun ms p h1 h2 h3 hp => ?_⟩
      exact ((hq.from_ k1).from_ (keep_newH hp0 _ R1)).lst (repL_intV ms) R2 hp (q ms p h1 (fun k => (h2 k).trans decide_eq_true_iff) (free_of R2 hp))
  · subst ed
    cases rv
    obtain ⟨vs, sq, rr⟩ := R1.ls ha
    rw [repL_intsV rr] at sq
    refine .inr ⟨a, ns, rfl, sq, hl, fun p0 c hp0 hcn => ?_⟩
    have R2 := R1.newH hp0 (SetO X.w p0 (fun j => decide (j ∈ ns)) c)
    refine ⟨p0, _, c, rfl, upd_same, by omega, fun ms p h1 h2 h3 hp => ?_⟩
    exact ((hq.from_ k1).from_ (keep_newH hp0 _ R1)).lst (repL_intV ms) R2 hp (q ms p h1 (fun k => (h2 k).trans decide_eq_true_iff) (free_of R2 hp))
end
end L3

/-! str * int -/
namespace L3
open PySem PySem.Spec PyProof.Rows L2
theorem fold_nil : ∀ n : Nat, (List.replicate n (#[] : Array Nat)).foldl (· ++ ·) #[] = #[]
  | 0 => rfl
  | n + 1 => by rw [List.replicate_succ, List.foldl_cons]; exact fold_nil n
theorem fold_size (a : Array Nat) : ∀ (n : Nat) (acc : Array Nat), ((List.replicate n a).foldl (fun x y => x ++ y) acc).size = acc.size + n * a.size
  | 0, acc => by simp
  | n + 1, acc => by
    rw [List.replicate_succ, List.foldl_cons, fold_size a n, Array.size_append, Nat.succ_mul]; omega
section
variable {X : Cx} {cl : ClsT}
def rRepS : R2 := fun x y H Q => ∃ (z : Str) (k : Int), x = .str z ∧ y = .int k ∧ 0 ≤ k ∧ k ≤ 1000 ∧ z.length ≤ 1000 ∧ Q (.str (repS z k.toNat)) H
theorem op_repS : OpR X (binaryOp .Mult) rRepS := by
  intro pins s σ H x y u v Q I rx ry ⟨z, k, ex, ey, k0, k1, hz, q⟩
  subst ex; subst ey
  obtain ⟨t, rfl⟩ := rx
  obtain ⟨t2, rfl⟩ := ry
  have hsl : 1000000 ≤ sizeLine := by decide
  refine P.mul_str ?_ (fun h1 h2 => ?_) (fun h1 h2 => ?_) ?_
  · have a : ¬ k < -(2 ^ 63 : Int) := by omega
    have b : ¬ k ≥ 2 ^ 63 := by omega
    rw [decide_eq_false a, decide_eq_false b]; rfl
  · have kp : 0 < k := by omega
    have hm : (z.length : Int) * k ≤ 1000 * 1000 := Int.mul_le_mul (by omega) k1 (by omega) (by omega)
    have : (z.length : Int) ≤ (2 ^ 63 - 1) / k := (Int.le_ediv_iff_mul_le kp).mpr (by omega)
    omega
  · have hm : z.length * k.toNat ≤ 1000 * 1000 := Nat.mul_le_mul hz (by omega)
    show decide (z.length * k.toNat > sizeLine) = false
    exact decide_eq_false (by omega)
  · have fin : ∀ (y : Str) (s' : Shared), y = repS z k.toNat → (∃ n, s' = { s with toks := n }) → ∀ tk, EP X pins σ Q (.str y tk) s' := by
      rintro y s' rfl ⟨n, rfl⟩ tk
      exact ⟨.str _, H, I.tok _, ⟨_, rfl⟩, q⟩
    by_cases h1 : k < 1
    · rw [if_pos h1]
      obtain rfl : k = 0 := by omega
      exact ⟨by decide, fin _ _ rfl ⟨_, rfl⟩ _⟩
    · rw [if_neg h1]
      by_cases h2 : (k == 1 || z.length == 0) = true
      · rw [if_pos h2]
        refine fin z s ?_ ⟨s.toks, rfl⟩ t
        rw [Bool.or_eq_true] at h2
        rcases h2 with h2 | h2
        · have e : k = 1 := by simpa using h2
          subst e
          show z = ⟨#[] ++ z.cps⟩
          rw [Array.empty_append]
        · have e : z.cps = #[] := by
            have : z.cps.size = 0 := by simpa [Str.length] using h2
            exact Array.eq_empty_of_size_eq_zero this
          show z = ⟨_⟩
          rw [e, fold_nil]
          cases z
          simp only at e
          rw [e]
      · rw [if_neg h2]
        refine ⟨?_, fin _ _ rfl ⟨_, rfl⟩ _⟩
        show (List.foldl (fun x1 x2 => x1 ++ x2) (#[] : Array Nat) (List.replicate k.toNat z.cps)).size ≤ sizeLine
        rw [fold_size]
        have hm : k.toNat * z.cps.size ≤ 1000 * 1000 := Nat.mul_le_mul (by omega) hz
        simp only [Array.size_empty]
        omega
end
end L3

/-! == and != of an own object and another thing -/
namespace L3N
open PySem PySem.Spec PyProof.Rows PySem.SeqAt
open AutoSeq1 (wpAny_loadPart')
open MeetsSeq MeetsSeq2 MeetsSeq3
section
theorem int_eq_inst (b : Int) (u : Tok) (l C dx : Addr) :
    Meets (Builtin.«int.__eq__» ⟨[.int b u, .ref l], []⟩) (fun _ R s => s.heap.get? l = some (PySem.W.instObj C dx) ∧ R (.ok (.ret .notImplemented)) s) :=
  .of_wp fun prog w A R s h => by obtain ⟨hp, g, d, tk, os⟩ := s; obtain ⟨hl, h⟩ := h; wp_walk using wpAny_loadPart' hl, wpAny_load hl; exact ⟨_, rfl, h⟩
theorem int_ne_inst (b : Int) (u : Tok) (l C dx : Addr) :
    Meets (Builtin.«int.__ne__» ⟨[.int b u, .ref l], []⟩) (fun _ R s => s.heap.get? l = some (PySem.W.instObj C dx) ∧ R (.ok (.ret .notImplemented)) s) :=
  .of_wp fun prog w A R s h => by obtain ⟨hp, g, d, tk, os⟩ := s; obtain ⟨hl, h⟩ := h; wp_walk using wpAny_loadPart' hl, wpAny_load hl; exact ⟨_, rfl, h⟩
theorem str_eq_inst (b : Str) (u : Tok) (l C dx : Addr) :
    Meets (Builtin.«str.__eq__» ⟨[.str b u, .ref l], []⟩) (fun _ R s => s.heap.get? l = some (PySem.W.instObj C dx) ∧ R (.ok (.ret .notImplemented)) s) :=
  .of_wp fun prog w A R s h => by obtain ⟨hp, g, d, tk, os⟩ := s; obtain ⟨hl, h⟩ := h; wp_walk using wpAny_loadPart' hl, wpAny_load hl; exact ⟨_, rfl, h⟩
theorem str_ne_inst (b : Str) (u : Tok) (l C dx : Addr) :
    Meets (Builtin.«str.__ne__» ⟨[.str b u, .ref l], []⟩) (fun _ R s => s.heap.get? l = some (PySem.W.instObj C dx) ∧ R (.ok (.ret .notImplemented)) s) :=
  .of_wp fun prog w A R s h => by obtain ⟨hp, g, d, tk, os⟩ := s; obtain ⟨hl, h⟩ := h; wp_walk using wpAny_loadPart' hl, wpAny_load hl; exact ⟨_, rfl, h⟩
section
variable {K : PySem.W.Frag}
theorem tup_eq_inst (a l C dx : Addr) (hc : PySem.W.mroIn K C (.type "tuple") = some false) :
    Meets (Builtin.«tuple.__eq__» ⟨[.ref a, .ref l], []⟩) (fun _ R s => K.In s.heap ∧ s.heap.get? l = some (PySem.W.instObj C dx) ∧ R (.ok (.ret .notImplemented)) s) :=
  .of_wp fun prog w A R s h => by
    obtain ⟨hk, hl, h⟩ := h
    obtain ⟨hp, g, d, tk, os⟩ := s
    wp_walk
    refine (PySem.W.looks_mroIn (M := model prog w) hk hc) A.in1 _ _ ⟨hp, g, d, tk, os⟩ (fun _ _ e => e) ?_
    wp_walk
    exact ⟨_, rfl, h⟩
theorem tup_ne_inst (a l C dx : Addr) (hc : PySem.W.mroIn K C (.type "tuple") = some false) :
    Meets (Builtin.«tuple.__ne__» ⟨[.ref a, .ref l], []⟩) (fun _ R s => K.In s.heap ∧ s.heap.get? l = some (PySem.W.instObj C dx) ∧ R (.ok (.ret .notImplemented)) s) :=
  .of_wp fun prog w A R s h => by
    obtain ⟨hk, hl, h⟩ := h
    obtain ⟨hp, g, d, tk, os⟩ := s
    wp_walk
    refine (PySem.W.looks_mroIn (M := model prog w) hk hc) A.in1 _ _ ⟨hp, g, d, tk, os⟩ (fun _ _ e => e) ?_
    wp_walk
    exact ⟨_, rfl, h⟩
end
section
variable {prog : Program} {w : World} {A : Around} {E : Value → Shared → Prop} {s : Shared} {K : PySem.W.Frag} {x C f : Addr} {ox : Obj} {od : Option Obj} {v : Value} {T : String}
/-- the other thing declines -/
def Declines (prog : Program) (w : World) (A : Around) (E : Value → Shared → Prop) (s : Shared) (v : Value) (x : Addr) (nm : Str) : Prop := ∀ Q' : Option Value → Shared → Prop, Q' none s → wpAny (model prog w) A (tryCompare v nm (.ref x)) Q' E s
theorem rc_eqR {Q : Value → Shared → Prop} (hu : A.units < cLine) (X : K.In s.heap) (I : PySem.W.InstAt s.heap x ox C od) (ht : s.TypeIs v T) (hsub : PySem.W.mroIn K C (.type T) = some false) (one : Declines prog w A E s v x "__eq__")
    (hs : PySem.W.findIn K (.ref C) "__eq__" = some (some (.ref f))) (hf : PySem.W.isFn K (.ref f) = true)
    (h : wpAny (model prog w) A (call (.ref f) [.ref x, v]) (fun r s' => ∃ t, r = .bool t ∧ Q (.bool t) s') E s) : wpAny (model prog w) A (richCompare .Eq v (.ref x)) Q E s := by
  have two : wpAny (model prog w) A (tryCompare (.ref x) "__eq__" v) (fun r s' => ∃ t, r = some (.bool t) ∧ Q (.bool t) s') E s := by
    unfold tryCompare
    refine wpAny_bind (PySem.W.ifBound_K X I hs hf (wpAny_mono h (fun r s' hr => ?_) fun _ _ e => e))
    obtain ⟨t, rfl, hq⟩ := hr
    exact wpAny_pure ⟨t, rfl, hq⟩
  simp only [richCompare, cmpInfo_Eq, ht.oneThing_none]
  refine wpAny_holding (wpAny_bind (wpAny_cRoomFor hu ?_))
  refine wpAny_bind (wpAny_typeOf ht ?_)
  refine wpAny_bind (I.type.here ?_)
  rw [show (Value.type T != Value.ref C) = true from by simp]
  simp only [if_true]
  refine wpAny_bind ((PySem.W.looks_mroIn X hsub).here ?_)
  simp only [Bool.false_eq_true, if_false, Bool.not_false, if_true]
  refine wpAny_bind (m := tryCompare v _ (.ref x)) (one _ ?_)
  refine wpAny_bind (m := tryCompare (.ref x) _ v) (wpAny_mono two (fun r s2 z => ?_) fun _ _ e => e)
  obtain ⟨t, rfl, hq⟩ := z
  exact wpAny_pure hq
theorem rc_neR {Q : Value → Shared → Prop} (hu : A.units + 1 < cLine) (X : K.In s.heap) (I : PySem.W.InstAt s.heap x ox C od) (hm : PySem.W.mroIn K C (.type "object") = some true) (ht : s.TypeIs v T) (hsub : PySem.W.mroIn K C (.type T) = some false) (one : Declines prog w A E s v x "__ne__")
    (hn : PySem.W.findIn K (.ref C) "__ne__" = some (some (.builtin "object.__ne__"))) (hs : PySem.W.findIn K (.ref C) "__eq__" = some (some (.ref f))) (hf : PySem.W.isFn K (.ref f) = true)
    (h : wpAny (model prog w) A.in1 (call (.ref f) [.ref x, v]) (fun r s' => ∃ t, r = .bool t ∧ Q (.bool (!t)) s') E s) : wpAny (model prog w) A (richCompare .NotEq v (.ref x)) Q E s := by
  have two : wpAny (model prog w) A (tryCompare (.ref x) "__ne__" v) (fun r s' => ∃ t, r = some (.bool t) ∧ Q (.bool t) s') E s := by
    unfold tryCompare
    refine wpAny_bind (ifBound_objNe X I hn (call_neO hu X I hm hs hf (wpAny_mono h (fun r s' hv => ?_) fun _ _ e => e)))
    obtain ⟨t, rfl, hq⟩ := hv
    exact ⟨t, rfl, wpAny_pure ⟨_, rfl, hq⟩⟩
  simp only [richCompare, cmpInfo_NotEq, ht.oneThing_none]
  refine wpAny_holding (wpAny_bind (wpAny_cRoomFor (Nat.lt_of_succ_lt hu) ?_))
  refine wpAny_bind (wpAny_typeOf ht ?_)
  refine wpAny_bind (I.type.here ?_)
  rw [show (Value.type T != Value.ref C) = true from by simp]
  simp only [if_true]
  refine wpAny_bind ((PySem.W.looks_mroIn X hsub).here ?_)
  simp only [Bool.false_eq_true, if_false, Bool.not_false, if_true]
  refine wpAny_bind (m := tryCompare v _ (.ref x)) (one _ ?_)
  refine wpAny_bind (m := tryCompare (.ref x) _ v) (wpAny_mono two (fun r s2 z => ?_) fun _ _ e => e)
  obtain ⟨t, rfl, hq⟩ := z
  exact wpAny_pure hq
/-- x != v, x an own object -/
theorem rc_neL {Q : Value → Shared → Prop} (hu : A.units + 1 < cLine) (X : K.In s.heap) (I : PySem.W.InstAt s.heap x ox C od) (hm : PySem.W.mroIn K C (.type "object") = some true) (ht : s.TypeIs v T) (hsub : PySem.W.subIn K (.type T) (.ref C) = some false)
    (hn : PySem.W.findIn K (.ref C) "__ne__" = some (some (.builtin "object.__ne__"))) (hs : PySem.W.findIn K (.ref C) "__eq__" = some (some (.ref f))) (hf : PySem.W.isFn K (.ref f) = true)
    (h : wpAny (model prog w) A.in1 (call (.ref f) [.ref x, v]) (fun r s' => ∃ t, r = .bool t ∧ Q (.bool (!t)) s') E s) : wpAny (model prog w) A (richCompare .NotEq (.ref x) v) Q E s := by
  have one : wpAny (model prog w) A (tryCompare (.ref x) "__ne__" v) (fun r s' => ∃ t, r = some (.bool t) ∧ Q (.bool t) s') E s := by
    unfold tryCompare
    refine wpAny_bind (ifBound_objNe X I hn (call_neO hu X I hm hs hf (wpAny_mono h (fun r s' hv => ?_) fun _ _ e => e)))
    obtain ⟨t, rfl, hq⟩ := hv
    exact ⟨t, rfl, wpAny_pure ⟨_, rfl, hq⟩⟩
  simp only [richCompare, cmpInfo_NotEq, oneThing_ref]
  refine wpAny_holding (wpAny_bind (wpAny_cRoomFor (Nat.lt_of_succ_lt hu) ?_))
  refine wpAny_bind (I.type.here ?_)
  refine wpAny_bind (wpAny_typeOf ht ?_)
  rw [show (Value.ref C != Value.type T) = true from by simp]
  simp only [if_true]
  refine wpAny_bind ((PySem.W.looks_subIn X hsub).here ?_)
  simp only [Bool.false_eq_true, if_false]
  refine wpAny_bind (m := tryCompare (.ref x) _ v) (wpAny_mono one (fun r s2 z => ?_) fun _ _ e => e)
  obtain ⟨t, rfl, hq⟩ := z
  exact wpAny_pure hq
end
/-- the kinds of the other thing -/
inductive Kind1 (s : Shared) : Value → String → Prop where
  | non : Kind1 s .none "NoneType"
  | int (i : Int) (t : Tok) : Kind1 s (.int i t) "int"
  | str (z : Str) (t : Tok) : Kind1 s (.str z t) "str"
  | tup {a : Addr} {o : Obj} (h : s.heap.get? a = some o) (hc : o.cls = .type "tuple") : Kind1 s (.ref a) "tuple"
theorem Kind1.type {s : Shared} {v : Value} {T : String} (k : Kind1 s v T) : s.TypeIs v T := by
  cases k with
  | non => rfl
  | int i t => rfl
  | str z t => rfl
  | tup h hc => exact ⟨_, h, hc⟩
theorem Kind1.sub {s : Shared} {v : Value} {T : String} {K : PySem.W.Frag} {C : Addr} (k : Kind1 s v T) : PySem.W.subIn K (.type T) (.ref C) = some false := by
  have h : ∀ T ∈ ["NoneType", "int", "str", "tuple"], (fastBuiltinMro T).map (fun x => x.all fun v => match v with | .type _ => true | _ => false) = some true := by decide +kernel
  have g : ∀ T ∈ ["NoneType", "int", "str", "tuple"], PySem.W.subIn K (.type T) (.ref C) = some false := fun T hT => by
    have e := h T hT
    show (fastBuiltinMro T).map (·.contains (.ref C)) = some false
    cases hm : fastBuiltinMro T with
    | none => rw [hm] at e; cases e
    | some x =>
      rw [hm] at e
      simp only [Option.map_some, Option.some.injEq] at e ⊢
      rw [Bool.eq_false_iff]
      intro hc
      rw [List.contains_iff_mem] at hc
      have := List.all_eq_true.mp e _ hc
      cases this
  cases k <;> exact g _ (by decide)
theorem Kind1.eqD {prog : Program} {w : World} {A : Around} {E : Value → Shared → Prop} {s : Shared} {K : PySem.W.Frag} {v : Value} {T : String} {x C dx : Addr} (k : Kind1 s v T) (X : K.In s.heap) (hx : s.heap.get? x = some (PySem.W.instObj C dx)) (hm : PySem.W.mroIn K C (.type T) = some false) : Declines prog w A E s v x "__eq__" := fun Q' q => by
  cases k with
  | non => exact wpAny_tryCompare_declines (show s.TypeIs .none "NoneType" from rfl) F.slot_NoneType_eq_refl (call_gives F.slot_NoneType_eq_refl rfl F.entry_NoneType_eq (F.args_NoneType_eq_2 _ _) (NoneType___eq___none_ref_0 x) ⟨rfl, q⟩)
  | int i t => exact wpAny_tryCompare_declines (typeIs_int s i t) F.slot_int_eq (call_meets F.slot_int_eq (typeIs_int s i t) F.entry_int_eq (F.args_int_eq_2 _ _) (int_eq_inst i t x C dx) ⟨hx, rfl, q⟩)
  | str z t => exact wpAny_tryCompare_declines (show s.TypeIs (.str z t) "str" from rfl) F.slot_str_eq (call_meets F.slot_str_eq rfl F.entry_str_eq (F.args_str_eq_2 _ _) (str_eq_inst z t x C dx) ⟨hx, rfl, q⟩)
  | @tup a o h hc => exact wpAny_tryCompare_declines (show s.TypeIs (.ref a) "tuple" from ⟨_, h, hc⟩) F.slot_tuple_eq (call_meets F.slot_tuple_eq ⟨_, h, hc⟩ F.entry_tuple_eq (F.args_tuple_eq_2 _ _) (tup_eq_inst a x C dx hm) ⟨X, hx, rfl, q⟩)
theorem Kind1.neD {prog : Program} {w : World} {A : Around} {E : Value → Shared → Prop} {s : Shared} {K : PySem.W.Frag} {v : Value} {T : String} {x C dx : Addr} (k : Kind1 s v T) (X : K.In s.heap) (hx : s.heap.get? x = some (PySem.W.instObj C dx)) (hm : PySem.W.mroIn K C (.type T) = some false) : Declines prog w A E s v x "__ne__" := fun Q' q => by
  cases k with
  | non => exact wpAny_tryCompare_declines (show s.TypeIs .none "NoneType" from rfl) F.slot_NoneType_ne_refl (call_gives F.slot_NoneType_ne_refl rfl F.entry_NoneType_ne (F.args_NoneType_ne_2 _ _) (NoneType___ne___none_ref_0 x) ⟨rfl, q⟩)
  | int i t => exact wpAny_tryCompare_declines (typeIs_int s i t) F.slot_int_ne (call_meets F.slot_int_ne (typeIs_int s i t) F.entry_int_ne (F.args_int_ne_2 _ _) (int_ne_inst i t x C dx) ⟨hx, rfl, q⟩)
  | str z t => exact wpAny_tryCompare_declines (show s.TypeIs (.str z t) "str" from rfl) F.slot_str_ne (call_meets F.slot_str_ne rfl F.entry_str_ne (F.args_str_ne_2 _ _) (str_ne_inst z t x C dx) ⟨hx, rfl, q⟩)
  | @tup a o h hc => exact wpAny_tryCompare_declines (show s.TypeIs (.ref a) "tuple" from ⟨_, h, hc⟩) F.slot_tuple_ne (call_meets F.slot_tuple_ne ⟨_, h, hc⟩ F.entry_tuple_ne (F.args_tuple_ne_2 _ _) (tup_ne_inst a x C dx hm) ⟨X, hx, rfl, q⟩)
end
end L3N
namespace L3N
open PySem PySem.Spec PyProof.Rows PySem.SeqAt
theorem Kind1.looks {prog : Program} {w : World} {s : Shared} {v : Value} {T : String} (k : Kind1 s v T) : PySem.W.Looks (model prog w) s.heap (typeOf v) (.type T) := by
  cases k with
  | non => exact PySem.W.Looks.of_pure rfl
  | int i t => exact PySem.W.Looks.of_pure rfl
  | str z t => exact PySem.W.Looks.of_pure rfl
  | tup h hc => exact fun A Q E s' hk hq => wpAny_typeOf ⟨_, hk _ _ h, hc⟩ hq
end L3N
namespace L3
open PySem L2 PySem.Spec PyProof.Rows
/-- a class that is none of the kinds of other things -/
structure OwnX (K : PySem.W.Frag) (Ca : Addr) : Prop where
  non : PySem.W.mroIn K Ca (.type "NoneType") = some false
  int : PySem.W.mroIn K Ca (.type "int") = some false
  str : PySem.W.mroIn K Ca (.type "str") = some false
  tup : PySem.W.mroIn K Ca (.type "tuple") = some false
theorem OwnX.of {K : PySem.W.Frag} {Ca : Addr} {s : Shared} {v : Value} {T : String} (O : OwnX K Ca) (k : L3N.Kind1 s v T) : PySem.W.mroIn K Ca (.type T) = some false := by
  cases k
  · exact O.non
  · exact O.int
  · exact O.str
  · exact O.tup
/-- None, a number, a string, a tuple -/
def plV (K : PySem.W.Frag) (H : Hp) (v : V) : Prop := v = .non ∨ (∃ i, v = .int i) ∨ (∃ z, v = .str z) ∨ ∃ a vs, v = .ref a ∧ SqT K H a vs
section
variable {X : Cx} {cl : ClsT} {H0 : Hp} {C0 : CH} {Ca fa : Addr} {fd : FuncData} {ps : List Str} {sp : Sp} {k : Nat} {g : List Src} {gV : List V → List V → List V}
theorem plV.kind {pins : List (Addr × Obj)} {σ : L2.St} {H : Hp} {s : Shared} {v : V} {u : Value} (I : Inv X pins σ H s) (h : plV X.K H v) (r : RelV v u) : ∃ T, L3N.Kind1 s u T := by
  rcases h with rfl | ⟨i, rfl⟩ | ⟨z, rfl⟩ | ⟨a, vs, rfl, h⟩
  · rw [show u = .none from r]; exact ⟨_, .non⟩
  · obtain ⟨t, rfl⟩ := r; exact ⟨_, .int i t⟩
  · obtain ⟨t, rfl⟩ := r; exact ⟨_, .str z t⟩
  · rw [show u = .ref a from r]
    obtain ⟨its, r1, ⟨o, ho, hc, hd⟩, hz⟩ := I.tuple h
    exact ⟨_, .tup ho hc⟩
def rEqX (Ca : Addr) (sp : Sp) (gV : List V → List V → List V) (f : Bool → Bool) (K : PySem.W.Frag) : R2 := fun x y H Q =>
  (∃ a dx fs, x = .ref a ∧ H a = some (.ins Ca dx fs) ∧ plV K H y ∧ sp (gV [x, y] []) H (fun v H' => ∃ t, v = .bl t ∧ Q (.bl (f t)) H') fun _ _ _ => False) ∨
  (∃ b dy gs, y = .ref b ∧ H b = some (.ins Ca dy gs) ∧ plV K H x ∧ sp (gV [y, x] []) H (fun v H' => ∃ t, v = .bl t ∧ Q (.bl (f t)) H') fun _ _ _ => False) ∨ rEqO Ca sp gV f x y H Q
theorem own_runV {A : Around} {pins : List (Addr × Obj)} {s : Shared} {σ : L2.St} {H : Hp} {a : Addr} {v : V} {u : Value} {Q : VK} {gv : List Value → List Value → List Value} (F : FnOkG X.prog X.w X.K X.mg X.base (L2.CX X.prog X.w) k fa fd ps sp) (hr : Room k A) (hg : A.guards = some []) (hfr : A.frames = X.A.frames)
    (hb : BindsTo s fd ⟨[.ref a, u], []⟩ (ps.zip (gv [.ref a, u] []))) (hv : Vals (gV [.ref a, v] []) (gv [.ref a, u] [])) (I : Inv X pins σ H s)
    (h : sp (gV [.ref a, v] []) H Q fun _ _ _ => False) : wpAny (model X.prog X.w) A (call (.ref fa) [.ref a, u]) (EP X pins σ Q) X.xe s := by
  have e0 : Env0 X.prog X.w X.K X.mg X.base A X.stack s H := by
    have e := I.env0
    exact ⟨by rw [hfr]; exact e.frames, e.mod, e.bs, e.bsz, e.funs, e.frf, e.hok, e.bare⟩
  refine wpAny_call (codeAny_mono (F.run A X.stack s H ⟨[.ref a, u], []⟩ _ _ Q (fun _ _ _ => False) hr hg e0 hb hv h) fun r s' hq => ?_)
  match r, hq with
  | .error e, hq => obtain ⟨_, _, _, _, _, _, _, _, _, _, _, _, z⟩ := hq; exact z.elim
  | .ok (.ret u), hq => exact I.after hq
theorem op_eqX {gv : List Value → List Value → List Value} (O : OwnE X.K Ca fa) (O2 : OwnX X.K Ca) (F : FnOkG X.prog X.w X.K X.mg X.base (L2.CX X.prog X.w) k fa fd ps sp) (hr : Room k X.A) (hg : X.A.guards = some []) (hb : ∀ (s : Shared) (us : List Value), X.K.In s.heap → us.length = 2 → BindsTo s fd ⟨us, []⟩ (ps.zip (gv us [])))
    (hv : ∀ {vs us zs ws}, Vals vs us → Vals zs ws → Vals (gV vs zs) (gv us ws)) : OpR X (compareOp .Eq) (rEqX Ca sp gV id X.K) := by
  intro pins s σ H x y v u Q I rx ry h
  rcases h with ⟨a, dx, fs, ex, ha, hy, hs⟩ | ⟨b, dy, gs, ey, hb', hx, hs⟩ | h
  · subst ex
    obtain ⟨T, kk⟩ := hy.kind I ry
    cases rx
    obtain ⟨mA, J, _⟩ := ins_get I.hok ha
    obtain ⟨od, J, _⟩ := J.look
    obtain ⟨m, hF⟩ := I.fr
    refine PySem.W.cmp_K (op := .Eq) (tb := .type T) hr.units0 hF I.ok.mod.kin J kk.looks ?_ O.eq O.fn ?_
    · unfold PySem.W.notFirst
      rw [kk.sub]
      simp
    · refine wpAny_mono (own_runV F hr hg rfl (hb s _ I.kIn rfl) (hv (.cons (show RelV (V.ref a) (Value.ref a) from rfl) (.cons ry .nil)) .nil) I hs) (fun w s' q => ?_) fun _ _ e => e
      obtain ⟨z, H', I', rz, t, et, q⟩ := q
      subst et
      cases rz
      exact ⟨.bl t, H', I', rfl, q⟩
  · subst ey
    obtain ⟨T, kk⟩ := hx.kind I rx
    cases ry
    obtain ⟨mA, J, _⟩ := ins_get I.hok hb'
    have hob := J.obj
    obtain ⟨od, J, _⟩ := J.look
    show wpAny (model X.prog X.w) X.A (richCompare .Eq v (.ref b)) (EP X pins σ Q) X.xe s
    refine L3N.rc_eqR hr.units0 I.kIn J kk.type (O2.of kk) (kk.eqD I.kIn hob (O2.of kk)) O.eq O.fn ?_
    refine wpAny_mono (own_runV F hr hg rfl (hb s _ I.kIn rfl) (hv (.cons (show RelV (V.ref b) (Value.ref b) from rfl) (.cons rx .nil)) .nil) I hs) (fun w s' q => ?_) fun _ _ e => e
    obtain ⟨z, H', I', rz, t, et, q⟩ := q
    subst et
    cases rz
    exact ⟨t, rfl, .bl t, H', I', rfl, q⟩
  · exact op_eqO O F hr hg hb hv pins s σ H x y v u Q I rx ry h
theorem op_neX {gv : List Value → List Value → List Value} (O : OwnE X.K Ca fa) (O2 : OwnX X.K Ca) (F : FnOkG X.prog X.w X.K X.mg X.base (L2.CX X.prog X.w) k fa fd ps sp) (hr : Room (k + 1) X.A) (hg : X.A.guards = some []) (hb : ∀ (s : Shared) (us : List Value), X.K.In s.heap → us.length = 2 → BindsTo s fd ⟨us, []⟩ (ps.zip (gv us [])))
    (hv : ∀ {vs us zs ws}, Vals vs us → Vals zs ws → Vals (gV vs zs) (gv us ws)) : OpR X (compareOp .NotEq) (rEqX Ca sp gV not X.K) := by
  intro pins s σ H x y v u Q I rx ry h
  rcases h with ⟨a, dx, fs, ex, ha, hy, hs⟩ | ⟨b, dy, gs, ey, hb', hx, hs⟩ | h
  · subst ex
    obtain ⟨T, kk⟩ := hy.kind I ry
    cases rx
    obtain ⟨mA, J, _⟩ := ins_get I.hok ha
    obtain ⟨od, J, _⟩ := J.look
    show wpAny (model X.prog X.w) X.A (richCompare .NotEq (.ref a) u) (EP X pins σ Q) X.xe s
    refine L3N.rc_neL (by have := hr.units; omega) I.kIn J O.ob kk.type kk.sub O.ne O.eq O.fn ?_
    refine wpAny_mono (own_runV F hr.in1 hg rfl (hb s _ I.kIn rfl) (hv (.cons (show RelV (V.ref a) (Value.ref a) from rfl) (.cons ry .nil)) .nil) I hs) (fun w s' q => ?_) fun _ _ e => e
    obtain ⟨z, H', I', rz, t, et, q⟩ := q
    subst et
    cases rz
    exact ⟨t, rfl, .bl (!t), H', I', rfl, q⟩
  · subst ey
    obtain ⟨T, kk⟩ := hx.kind I rx
    cases ry
    obtain ⟨mA, J, _⟩ := ins_get I.hok hb'
    have hob := J.obj
    obtain ⟨od, J, _⟩ := J.look
    show wpAny (model X.prog X.w) X.A (richCompare .NotEq v (.ref b)) (EP X pins σ Q) X.xe s
    refine L3N.rc_neR (by have := hr.units; omega) I.kIn J O.ob kk.type (O2.of kk) (kk.neD I.kIn hob (O2.of kk)) O.ne O.eq O.fn ?_
    refine wpAny_mono (own_runV F hr.in1 hg rfl (hb s _ I.kIn rfl) (hv (.cons (show RelV (V.ref b) (Value.ref b) from rfl) (.cons rx .nil)) .nil) I hs) (fun w s' q => ?_) fun _ _ e => e
    obtain ⟨z, H', I', rz, t, et, q⟩ := q
    subst et
    cases rz
    exact ⟨t, rfl, .bl (!t), H', I', rfl, q⟩
  · exact op_neO O F hr hg hb hv pins s σ H x y v u Q I rx ry h
def plD (d : D) : Prop := d = .non ∨ (∃ i, d = .int i) ∨ (∃ z, d = .str z) ∨ ∃ ds, d = .tup ds
theorem plD.plV {K : PySem.W.Frag} {H : Hp} {d : D} {v : V} (h : plD d) (r : Rep K H d v) : plV K H v := by
  rcases h with rfl | ⟨i, rfl⟩ | ⟨z, rfl⟩ | ⟨ds, rfl⟩
  · cases r; exact .inl rfl
  · cases r; exact .inr (.inl ⟨_, rfl⟩)
  · cases r; exact .inr (.inr (.inl ⟨_, rfl⟩))
  · cases r with
    | tup s r => exact .inr (.inr (.inr ⟨_, _, rfl, s⟩))
/-- x == y, x != y: one of them is of the class c, f answers -/
def oEqX (c : Nat) (sem : SemF) (g : List Src) (f : Bool → Bool) : O2 := fun x y C Q =>
  (∃ p fs, x = .ref p ∧ C p = some (.ins c fs) ∧ plD y ∧ sem (gath g [x, y] []) C (fun d C' => ∃ t, d = .bl t ∧ Q (.bl (f t)) C') fun _ _ => False) ∨
  (∃ q gs, y = .ref q ∧ C q = some (.ins c gs) ∧ plD x ∧ sem (gath g [y, x] []) C (fun d C' => ∃ t, d = .bl t ∧ Q (.bl (f t)) C') fun _ _ => False) ∨ oEqO c sem g f x y C Q
theorem lk_eqX {c np : Nat} {sem : SemF} {f : Bool → Bool} (hc : cl c = some Ca) (hl : (gath g [.ref 0, .ref 0] []).length = np) (b3 : ∀ H ds vs es zs, ds.length = 2 → es.length = 0 → RepL X.K H ds vs → RepL X.K H es zs → RepL X.K H (gath g ds es) (gV vs zs)) : Lk2 X.K cl (rEqX Ca (spC X.K cl np sem) gV f X.K) (oEqX c sem g f) :=
  fun H C d e v u Q Qc rd re R h hq => by
    have gl : ∀ a b : D, (gath g [a, b] []).length = np := fun a b => by rw [← hl]; simp only [gath, List.length_map]
    rcases h with ⟨p, fs, e1, h1, hy, h3⟩ | ⟨q, gs, e2, h2, hx, h3⟩ | h
    · subst e1
      have hp := hy.plV re
      cases rd
      obtain ⟨Ca1, dx, fv, hc1, g1, _⟩ := R p _ h1
      rw [hc] at hc1
      cases hc1
      refine .inl ⟨p, dx, fv, rfl, g1, hp, _, C, _, _, b3 H [.ref p, e] _ [] _ rfl rfl (.cons (.ref p) (.cons re .nil)) .nil, gl _ _, R, h3, ?_, fun _ _ _ _ _ z => z.elim⟩
      intro d' C' v' H' ⟨t, et, qt⟩ rv R' kk
      subst et
      cases rv
      exact ⟨t, rfl, hq _ _ _ _ qt (.bl _) R' kk⟩
    · subst e2
      have hp := hx.plV rd
      cases re
      obtain ⟨Ca1, dx, fv, hc1, g1, _⟩ := R q _ h2
      rw [hc] at hc1
      cases hc1
      refine .inr (.inl ⟨q, dx, fv, rfl, g1, hp, _, C, _, _, b3 H [.ref q, d] _ [] _ rfl rfl (.cons (.ref q) (.cons rd .nil)) .nil, gl _ _, R, h3, ?_, fun _ _ _ _ _ z => z.elim⟩)
      intro d' C' v' H' ⟨t, et, qt⟩ rv R' kk
      subst et
      cases rv
      exact ⟨t, rfl, hq _ _ _ _ qt (.bl _) R' kk⟩
    · exact .inr (.inr (lk_eqO hc hl b3 H C d e v u Q Qc rd re R h hq))
end
section
variable {X : Cx} {cl : ClsT} {H0 : Hp} {C0 : CH} {ca cb : CTE} {a b : Expr} {pos : Pos} {Ca fa : Addr} {fd : FuncData} {ps : List Str} {k c np : Nat} {sem : SemF} {g : List Src}
theorem cpe_eqX (hc : cl c = some Ca) (O : OwnE X.K Ca fa) (O2 : OwnX X.K Ca) (F : FnOkG X.prog X.w X.K X.mg X.base (L2.CX X.prog X.w) k fa fd ps (spC X.K cl np sem)) (hr : Room (k + 1) X.A) (hg : X.A.guards = some []) (hb : BindsC X.K fd ps 2 [] g) (hl : g.length = np) (ha : CPE X cl H0 C0 a ca) (hb' : CPE X cl H0 C0 b cb) (hm : behindInMarks .Eq b = false) :
    CPE X cl H0 C0 (.Compare a [.Eq] [b] pos) (cBin (oEqX c sem g id) ca cb) := by
  obtain ⟨gv, gV, b1, b2, b3⟩ := hb
  exact cpe_cmp (op_eqX O O2 F (hr.mono (Nat.le_succ _)) hg (fun s us hk hl => by have := b1 s us [] hk hl rfl; simpa using this) b2) (lk_eqX hc (by simp only [gath, List.length_map]; exact hl) b3) ha hb' hm
theorem cpe_neX (hc : cl c = some Ca) (O : OwnE X.K Ca fa) (O2 : OwnX X.K Ca) (F : FnOkG X.prog X.w X.K X.mg X.base (L2.CX X.prog X.w) k fa fd ps (spC X.K cl np sem)) (hr : Room (k + 1) X.A) (hg : X.A.guards = some []) (hb : BindsC X.K fd ps 2 [] g) (hl : g.length = np) (ha : CPE X cl H0 C0 a ca) (hb' : CPE X cl H0 C0 b cb) (hm : behindInMarks .NotEq b = false) :
    CPE X cl H0 C0 (.Compare a [.NotEq] [b] pos) (cBin (oEqX c sem g not) ca cb) := by
  obtain ⟨gv, gV, b1, b2, b3⟩ := hb
  exact cpe_cmp (op_neX O O2 F hr hg (fun s us hk hl => by have := b1 s us [] hk hl rfl; simpa using this) b2) (lk_eqX hc (by simp only [gath, List.length_map]; exact hl) b3) ha hb' hm
theorem cpt_eqX (hc : cl c = some Ca) (O : OwnE X.K Ca fa) (O2 : OwnX X.K Ca) (F : FnOkG X.prog X.w X.K X.mg X.base (L2.CX X.prog X.w) k fa fd ps (spC X.K cl np sem)) (hr : Room (k + 1) X.A) (hg : X.A.guards = some []) (hb : BindsC X.K fd ps 2 [] g) (hl : g.length = np) (ha : CPE X cl H0 C0 a ca) (hb' : CPE X cl H0 C0 b cb) (hm : behindInMarks .Eq b = false) :
    CPT X cl H0 C0 (.Compare a [.Eq] [b] pos) (cTst (cBin (oEqX c sem g id) ca cb)) := by
  obtain ⟨gv, gV, b1, b2, b3⟩ := hb
  exact cpt_cmp (op_eqX O O2 F (hr.mono (Nat.le_succ _)) hg (fun s us hk hl => by have := b1 s us [] hk hl rfl; simpa using this) b2) (lk_eqX hc (by simp only [gath, List.length_map]; exact hl) b3) ha hb' hm
theorem cpt_neX (hc : cl c = some Ca) (O : OwnE X.K Ca fa) (O2 : OwnX X.K Ca) (F : FnOkG X.prog X.w X.K X.mg X.base (L2.CX X.prog X.w) k fa fd ps (spC X.K cl np sem)) (hr : Room (k + 1) X.A) (hg : X.A.guards = some []) (hb : BindsC X.K fd ps 2 [] g) (hl : g.length = np) (ha : CPE X cl H0 C0 a ca) (hb' : CPE X cl H0 C0 b cb) (hm : behindInMarks .NotEq b = false) :
    CPT X cl H0 C0 (.Compare a [.NotEq] [b] pos) (cTst (cBin (oEqX c sem g not) ca cb)) := by
  obtain ⟨gv, gV, b1, b2, b3⟩ := hb
  exact cpt_cmp (op_neX O O2 F hr hg (fun s us hk hl => by have := b1 s us [] hk hl rfl; simpa using this) b2) (lk_eqX hc (by simp only [gath, List.length_map]; exact hl) b3) ha hb' hm
end
end L3

namespace L3
open PySem L2 PySem.Spec PyProof.Rows
/-! d.get(k, x) -/
section
variable {X : Cx} {cl : ClsT}
def rGet2 : V → List V → Hp → VK → Prop := fun x xs H Q => ∃ a y z o, x = .ref a ∧ xs = [y, z] ∧ DGet H a y o ∧ Q (o.getD z) H
theorem mt_get2 (hu : X.A.units + 1 < cLine) : MtR X "dict.get" rGet2 := by
  intro pins s σ H x xs v us Q I rx rs ⟨a, y, z, o, e1, e2, g, q⟩
  subst e1; subst e2
  cases rx
  cases rs with
  | cons r1 rr =>
    cases rr with
    | cons r2 rr =>
      cases rr
      exact d_get2 hu I g r1 r2 fun w' s' I' r' => ⟨_, H, I', r', q⟩
def oGet2 : OM := fun d ds C Q => ∃ a kvs k y z, d = .ref a ∧ ds = [y, z] ∧ C a = some (.dic kvs) ∧ keyD y = some k ∧ Q ((valC kvs k).getD z) C
theorem lk_get2 {K : PySem.W.Frag} : LkM K cl rGet2 oGet2 := fun H C d v ds vs Q Qc r rs R ⟨a, kvs, k, y, z, h1, h2, h3, h4, q⟩ hq => by
  subst h1; subst h2; cases r
  cases rs with
  | cons r1 rr =>
    cases rr with
    | cons r2 rr =>
      cases rr
      obtain ⟨vs, e1, rf⟩ := R a _ h3
      have e3 := keyD_rep h4 r1
      subst e3
      refine ⟨a, _, _, valV vs k, rfl, rfl, .inl ⟨vs, k, .inl e1, rfl, rfl⟩, ?_⟩
      cases hv : valC kvs k with
      | none =>
        rw [(rf.val k).2 hv]
        rw [hv] at q
        exact hq _ _ _ _ q r2 R Keep.refl
      | some w =>
        obtain ⟨w', e4, r4⟩ := (rf.val k).1 w hv
        rw [e4]
        rw [hv] at q
        exact hq _ _ _ _ q r4 R Keep.refl
end
/-- the own == of a class, against its own and against other things -/
abbrev OwnEX (K : PySem.W.Frag) (Ca f : Addr) : Prop := OwnE K Ca f ∧ OwnX K Ca
end L3

namespace L3
open PySem L2
/-! ### the clean language -/
/-- built-in functions -/
inductive BI where
  | len | int | list | tuple | sum | all | any | maxL | max2 | min2 | abs | repr | str
  deriving DecidableEq
/-- methods of built-ins -/
inductive MI where
  | append | extend | pop | popAt | join | get2
  deriving DecidableEq
inductive OpB where
  | add | sub | mul | fdiv | mod | pow
  deriving DecidableEq
inductive OpC where
  | eq | ne | lt | le | gt | ge | is | isNot | inD | notInD | inF | notInF | inS | notInS | inK | notInK
  deriving DecidableEq
/-- what is walked -/
inductive IK where
  | seq | txt | rg1 | rg2 | rg3 | rvs | enu
  deriving DecidableEq
inductive CE where
  | var (i : Nat) | cst (d : D) | glb (x : Str) (d : D)
  | bin (o : OpB) (a b : CE) | neg (a : CE) | cmp (o : OpC) (a b : CE) | chain (o o' : OpC) (a b c : CE)
  | and (a b : CE) | or (a b : CE) | not (a : CE) | ite (t a b : CE)
  | tup (es : List CE) | lst (es : List CE) | dic (ks vs : List CE) | dtk0 | dtk1 (a b : CE) | nev
  | idx (a b : CE) | idxK (a b : CE) | rev (a : CE) | slice (a : CE) (lo hi : Option CE)
  | call (f np n m : Nat) (g : List Src) (es ks : List CE)
  | make (c f np n m : Nat) (g : List Src) (es ks : List CE)
  | meth (c : Nat) (nm : Str) (f np n m : Nat) (g : List Src) (o : CE) (es ks : List CE)
  | isi (u : String ⊕ Nat) (a : CE)
  | bi (b : BI) (es : List CE) | mt (m : MI) (o : CE) (es : List CE)
  | attr (cs : List Nat) (f : Str) (o : CE)
  | eqO (c f np : Nat) (g : List Src) (ne : Bool) (a b : CE) | eqX (c f np : Nat) (g : List Src) (ne : Bool) (a b : CE) | lenO (c f np : Nat) (g : List Src) (a : CE) | lzip (a b : CE) | srt (a : CE) | orO (c f np : Nat) (g : List Src) (a b : CE) | tupS (a b : CE) | ninO (c f np : Nat) (g : List Src) (a b : CE) | lenN (a : CE) | getW (n : Str) (tab : List (Str × Int)) (a b : CE)
  | lc (e : CE) (T : CT) (vs : List Nat) (k : IK) (it : List CE) (ifs : List CE)
/-- what is said of a caught exception (isx: isinstance of it) -/
inductive IE where
  | leaf (e : CE) | isx (ans : List (Nat × Bool)) (u : String ⊕ Nat) (j : Nat) | and2 (a b : IE) | and3 (a b c : IE) | or2 (a b : IE) | not (a : IE) | ite (t a b : IE)
inductive CS where
  | pass | brk | cont | retN | expr (e : CE) | ret (e : CE)
  | ifS (t : CE) (a b : List CS)
  | asg (T : CT) (e : CE) | par (i j : Nat) (a b : CE) | par3 (i j l : Nat) (a b c : CE) | setI (o i e : CE) | setK (o i e : CE) | never | setF (cs : List Nat) (f : Str) (o e : CE)
  | augN (i : Nat) (o : OpB) (e : CE) | augF (cs : List Nat) (f : Str) (o e : CE)
  | forS (T : CT) (k : IK) (it : List CE) (body : List CS) | whileS (t : CE) (body : List CS)
  | raise (c : Nat) | raiseE (c : Nat) (e : CE) | tryS (cs : List Nat) (body suite : List CS) | tryA (cs : List Nat) (i : Nat) (body suite : List CS)
  | tryK (cs : List Nat) (i : Nat) (body suite rest : List CS) (t : CE) (ie : IE)
/-- what a body leans on -/
structure G3 where
  call : Nat → SemF
  make : Nat → SemF
  kit : String ⊕ Nat → String ⊕ Nat → Option Bool
/-! operators -/
def oAddA : O2 := fun x y C Q => match x, y with
  | .int i, .int j => Q (.int (i + j)) C
  | .str i, .str j => i.length + j.length ≤ sizeLine ∧ Q (.str (i ++ j)) C
  | .tup xs, .tup ys => xs.length + ys.length ≤ sizeLine ∧ Q (.tup (xs ++ ys)) C
  | .ref a, .ref b => ∃ xs ys, C a = some (.lst xs) ∧ C b = some (.lst ys) ∧ xs.length + ys.length ≤ sizeLine ∧ ∀ p, C p = none → Q (.ref p) (cup C p (.lst (xs ++ ys)))
  | _, _ => False
def oI2 (P : Int → Int → Prop) (g : Int → Int → D) : O2 := fun x y C Q => match x, y with
  | .int i, .int j => P i j ∧ Q (g i j) C
  | _, _ => False
def semB : OpB → O2
  | .add => oAddA
  | .sub => oI2 (fun _ _ => True) fun i j => .int (i - j)
  | .mul => oMulA
  | .fdiv => oI2 CDivN fun i j => .int (i.fdiv j)
  | .mod => oI2 (fun _ j => j ≠ 0) fun i j => .int (i.fmod j)
  | .pow => oI2 CPow fun i j => .int (i ^ j.toNat)
def semC : OpC → O2
  | .eq => oEqN id
  | .ne => oEqN not
  | .lt => oI2 (fun _ _ => True) fun i j => .bl (decide (i < j))
  | .le => oI2 (fun _ _ => True) fun i j => .bl (decide (i ≤ j))
  | .gt => oI2 (fun _ _ => True) fun i j => .bl (decide (j < i))
  | .ge => oI2 (fun _ _ => True) fun i j => .bl (decide (j ≤ i))
  | .is => oIs id
  | .isNot => oIs not
  | .inD => oInD id
  | .notInD => oInD not
  | .inF => oInF id
  | .notInF => oInF not
  | .inS => oInS id
  | .notInS => oInS not
  | .inK => oInK id
  | .notInK => oInK not
def oNeg : O1 := fun d C Q => match d with
  | .int i => Q (.int (-i)) C
  | _ => False
def semBI : BI → OL
  | .len => oLen
  | .int => oInt
  | .list => oList
  | .tuple => oTuple
  | .sum => fun xs C Q => ∃ (p : Addr) (ns : List Int), xs = [.ref p] ∧ LsC C p (ns.map D.int) ∧ Q (.int ns.sum) C
  | .all => oAll fun bs => .bl (bs.all id)
  | .any => oAll fun bs => .bl (bs.any id)
  | .maxL => oMaxL
  | .max2 => oMax2
  | .min2 => oMin2
  | .abs => oAbs
  | .repr => oRepr
  | .str => oStrI
def semMI : MI → OM
  | .append => oAppend
  | .extend => oExtendA
  | .pop => oPop
  | .popAt => oPopAt
  | .join => oJoin
  | .get2 => oGet2
def tyMI : MI → D → CH → Prop
  | .join => isStr
  | .get2 => isDic
  | _ => isLst
def semIK : IK → List CTE → CTI
  | .seq, [a] => iSeq a
  | .txt, [a] => iTxt a
  | .rg1, [a] => iRg1 (cCons a cNil)
  | .rg2, [a, b] => iRg2 (cCons a (cCons b cNil))
  | .rg3, [a, b, c] => iRg3 (cCons a (cCons b (cCons c cNil)))
  | .rvs, [a] => iRvs a
  | .enu, [a] => iEnu a
  | _, _ => fun _ _ _ => False
def cChain (o o' : O2) (a b c : CTE) : CTE := fun σ C Q => a σ C fun d C1 => b σ C1 fun e C2 => o d e C2 fun z C3 => ∃ k, z = .bl k ∧ if k = true then c σ C3 fun f C4 => o' e f C4 Q else Q (.bl false) C3
/-- the pairs of a display, from the left -/
def cPrs (ks vs : List CTE) : Env3 → CH → (List (D × D) → CH → Prop) → Prop := fun σ C Q => match ks, vs with
  | k :: ks, v :: vs => k σ C fun d C1 => v σ C1 fun e C2 => cPrs ks vs σ C2 fun ps C3 => Q ((d, e) :: ps) C3
  | _, _ => Q [] C
def dicOf (ps : List (Key × D)) : List (Key × D) := ps.foldl (fun acc p => putC acc p.1 p.2) []
def cDic (ks vs : List CTE) : CTE := fun σ C Q => cPrs ks vs σ C fun ps C1 => ∃ kvs : List (Key × D), kvs.map (fun p => p.2) = ps.map (·.2) ∧ ps.map (fun p => keyD p.1) = kvs.map (fun p => some p.1) ∧ kvs.length ≤ 15 ∧ ∀ p, C1 p = none → Q (.ref p) (cup C1 p (.dic (dicOf kvs)))
/-- what is never reached -/
def cNev : CTE := fun _ _ _ => False
mutual
def rdE (G : G3) (ex : Kxs) : CE → CTE
  | .var i => cVar i
  | .cst d => cC d
  | .glb _ d => cC d
  | .bin o a b => cBin (semB o) (rdE G ex a) (rdE G ex b)
  | .neg a => cUn oNeg (rdE G ex a)
  | .cmp o a b => cBin (semC o) (rdE G ex a) (rdE G ex b)
  | .chain o o' a b c => cChain (semC o) (semC o') (rdE G ex a) (rdE G ex b) (rdE G ex c)
  | .and a b => cAndV (rdE G ex a) (rdE G ex b)
  | .or a b => cOrV (rdE G ex a) (rdE G ex b)
  | .not a => cNotV (rdE G ex a)
  | .ite t a b => cIf (rdT G ex t) (rdE G ex a) (rdE G ex b)
  | .tup es => cList oTup (rdA G ex es)
  | .lst es => cList oLst (rdA G ex es)
  | .dic ks vs => cDic (rdLs G ex ks) (rdLs G ex vs)
  | .idx a b => cBin oIxA (rdE G ex a) (rdE G ex b)
  | .idxK a b => cBin oGetK (rdE G ex a) (rdE G ex b)
  | .rev a => cRev (rdE G ex a)
  | .dtk0 => cDtk0
  | .dtk1 a b => cDtk1 (rdE G ex a) (rdE G ex b)
  | .nev => cNev
  | .slice a lo hi => cSl (rdE G ex a) (rdO G ex lo) (rdO G ex hi)
  | .call f np n m g es ks => cCall (G.call f) np n m g ex (rdA G ex es) (rdA G ex ks)
  | .make c f np n m g es ks => cMake c (G.make f) np n m g ex (rdA G ex es) (rdA G ex ks)
  | .meth c nm f np n m g o es ks => cMeth c nm (G.call f) np n m g ex (rdE G ex o) (rdA G ex es) (rdA G ex ks)
  | .isi u a => cUn (oIsi G.kit u) (rdE G ex a)
  | .bi b es => cList (semBI b) (rdA G ex es)
  | .mt m o es => cMt (tyMI m) (semMI m) (rdE G ex o) (rdA G ex es)
  | .attr cs f o => cAttr f (· ∈ cs) (rdE G ex o)
  | .eqO c f _ g ne a b => cBin (oEqO c (G.make f) g (if ne = true then not else id)) (rdE G ex a) (rdE G ex b)
  | .eqX c f _ g ne a b => cBin (oEqX c (G.make f) g (if ne = true then not else id)) (rdE G ex a) (rdE G ex b)
  | .lenO c f _ g a => cList (oLenO c (G.make f) g) (cCons (rdE G ex a) cNil)
  | .orO c f np g a b => cOrO c (G.call f) np g ex (rdE G ex a) (rdE G ex b)
  | .ninO c f _ g a b => cBin (oNotInO c (G.make f) g) (rdE G ex a) (rdE G ex b)
  | .lenN a => cLenN (rdE G ex a)
  | .getW _ tab a b => cGetW tab (rdE G ex a) (rdE G ex b)
  | .tupS a b => cTupS (rdE G ex a) (rdE G ex b)
  | .lzip a b => cLzip (cCons (rdE G ex a) (cCons (rdE G ex b) cNil))
  | .srt a => cSrtA (rdE G ex a)
  | .lc e T vs k it ifs => cLc (semIK k (rdLs G ex it)) T vs (rdIfs G (fun _ _ _ => False) ifs) (rdE G (fun _ _ _ => False) e)
def rdT (G : G3) (ex : Kxs) : CE → CTT
  | .and a b => cAnd (rdT G ex a) (rdT G ex b)
  | .or a b => cOr (rdT G ex a) (rdT G ex b)
  | .not a => cNot (rdT G ex a)
  | .var i => cTst (cVar i)
  | .cst d => cTst (cC d)
  | .glb _ d => cTst (cC d)
  | .bin o a b => cTst (cBin (semB o) (rdE G ex a) (rdE G ex b))
  | .neg a => cTst (cUn oNeg (rdE G ex a))
  | .cmp o a b => cTst (cBin (semC o) (rdE G ex a) (rdE G ex b))
  | .chain o o' a b c => cTst (cChain (semC o) (semC o') (rdE G ex a) (rdE G ex b) (rdE G ex c))
  | .ite t a b => cTst (cIf (rdT G ex t) (rdE G ex a) (rdE G ex b))
  | .tup es => cTst (cList oTup (rdA G ex es))
  | .lst es => cTst (cList oLst (rdA G ex es))
  | .dic ks vs => cTst (cDic (rdLs G ex ks) (rdLs G ex vs))
  | .idx a b => cTst (cBin oIxA (rdE G ex a) (rdE G ex b))
  | .idxK a b => cTst (cBin oGetK (rdE G ex a) (rdE G ex b))
  | .rev a => cTst (cRev (rdE G ex a))
  | .dtk0 => cTst cDtk0
  | .dtk1 a b => cTst (cDtk1 (rdE G ex a) (rdE G ex b))
  | .nev => cTst cNev
  | .slice a lo hi => cTst (cSl (rdE G ex a) (rdO G ex lo) (rdO G ex hi))
  | .call f np n m g es ks => cTst (cCall (G.call f) np n m g ex (rdA G ex es) (rdA G ex ks))
  | .make c f np n m g es ks => cTst (cMake c (G.make f) np n m g ex (rdA G ex es) (rdA G ex ks))
  | .meth c nm f np n m g o es ks => cTst (cMeth c nm (G.call f) np n m g ex (rdE G ex o) (rdA G ex es) (rdA G ex ks))
  | .isi u a => cTst (cUn (oIsi G.kit u) (rdE G ex a))
  | .bi b es => cTst (cList (semBI b) (rdA G ex es))
  | .mt m o es => cTst (cMt (tyMI m) (semMI m) (rdE G ex o) (rdA G ex es))
  | .attr cs f o => cTst (cAttr f (· ∈ cs) (rdE G ex o))
  | .eqO c f _ g ne a b => cTst (cBin (oEqO c (G.make f) g (if ne = true then not else id)) (rdE G ex a) (rdE G ex b))
  | .eqX c f _ g ne a b => cTst (cBin (oEqX c (G.make f) g (if ne = true then not else id)) (rdE G ex a) (rdE G ex b))
  | .lenO c f _ g a => cTst (cList (oLenO c (G.make f) g) (cCons (rdE G ex a) cNil))
  | .orO c f np g a b => cTst (cOrO c (G.call f) np g ex (rdE G ex a) (rdE G ex b))
  | .ninO c f _ g a b => cTst (cBin (oNotInO c (G.make f) g) (rdE G ex a) (rdE G ex b))
  | .lenN a => cTst (cLenN (rdE G ex a))
  | .getW _ tab a b => cTst (cGetW tab (rdE G ex a) (rdE G ex b))
  | .tupS a b => cTst (cTupS (rdE G ex a) (rdE G ex b))
  | .lzip a b => cTst (cLzip (cCons (rdE G ex a) (cCons (rdE G ex b) cNil)))
  | .srt a => cTst (cSrtA (rdE G ex a))
  | .lc e T vs k it ifs => cTst (cLc (semIK k (rdLs G ex it)) T vs (rdIfs G (fun _ _ _ => False) ifs) (rdE G (fun _ _ _ => False) e))
def rdA (G : G3) (ex : Kxs) : List CE → CTA
  | [] => cNil
  | e :: es => cCons (rdE G ex e) (rdA G ex es)
def rdLs (G : G3) (ex : Kxs) : List CE → List CTE
  | [] => []
  | e :: es => rdE G ex e :: rdLs G ex es
def rdIfs (G : G3) (ex : Kxs) : List CE → CTT
  | [] => cYes
  | [e] => rdT G ex e
  | _ => fun _ _ _ => False
def rdO (G : G3) (ex : Kxs) : Option CE → CTO
  | none => cNoPart
  | some e => cPart (rdE G ex e)
end
/-- x += e of numbers and texts -/
def oAug : OpB → O2
  | .add => fun x y C Q => match x, y with
    | .int i, .int j => Q (.int (i + j)) C
    | .str i, .str j => i.length + j.length ≤ sizeLine ∧ Q (.str (i ++ j)) C
    | _, _ => False
  | .sub => oI2 (fun _ _ => True) fun i j => .int (i - j)
  | _ => fun _ _ _ _ => False
mutual
def rdI (G : G3) (ex : Kxs) (a cc : Nat) : IE → CTE
  | .leaf e => rdE G ex e
  | .isx ans _ j => cIsx ans j a cc
  | .and2 x y => cAndV (rdI G ex a cc x) (rdI G ex a cc y)
  | .and3 x y z => cAndV (rdI G ex a cc x) (cAndV (rdI G ex a cc y) (rdI G ex a cc z))
  | .or2 x y => cOrV (rdI G ex a cc x) (rdI G ex a cc y)
  | .not x => cNotV (rdI G ex a cc x)
  | .ite t x y => cIf (rdIT G ex a cc t) (rdI G ex a cc x) (rdI G ex a cc y)
def rdIT (G : G3) (ex : Kxs) (a cc : Nat) : IE → CTT
  | .leaf e => rdT G ex e
  | .isx ans _ j => cTst (cIsx ans j a cc)
  | .and2 x y => cAnd (rdIT G ex a cc x) (rdIT G ex a cc y)
  | .and3 x y z => cAnd (rdIT G ex a cc x) (cAnd (rdIT G ex a cc y) (rdIT G ex a cc z))
  | .or2 x y => cOr (rdIT G ex a cc x) (rdIT G ex a cc y)
  | .not x => cNot (rdIT G ex a cc x)
  | .ite t x y => cTst (cIf (rdIT G ex a cc t) (rdI G ex a cc x) (rdI G ex a cc y))
end
/-- behind a try that has caught: if n is None: .. is passed by, then return ie -/
def sCaught (G : G3) (ex : Kxs) (cs : List Nat) (t : CE) (ie : IE) (a cc : Nat) : CTS := fun D σ C => if decide (cc ∈ cs) = true then sSeq (sIf (rdT G ex t) (fun _ _ _ => False) sNext) (sRet (rdI G ex a cc ie)) D σ C else False
def sAug (i : Nat) (o : O2) (e : CTE) : CTS := fun D σ C => ∃ d, σ[i]? = some (some d) ∧ e σ C fun z C1 => o d z C1 fun w C2 => D.nx (σ.set i (some w)) C2
mutual
def rdS (G : G3) (ex : Kxs) : CS → CTS
  | .pass => sNext
  | .brk => sBreak
  | .cont => sCont
  | .retN => sRetN
  | .expr e => sDrop (rdE G ex e)
  | .ret e => sRet (rdE G ex e)
  | .ifS t a b => sIf (rdT G ex t) (rdSs G ex a) (rdSs G ex b)
  | .asg T e => sAsg (rdE G ex e) (hT T)
  | .par i j a b => sPar i j (rdA G ex [a, b])
  | .par3 i j l a b c => sPar3 i j l (rdA G ex [a, b, c])
  | .setI o i e => sSet (rdE G ex e) (rdE G ex o) (rdE G ex i) (fun x y z C Q => oSetL x y z C Q ∨ oSetD x y z C Q)
  | .setK o i e => sSet (rdE G ex e) (rdE G ex o) (rdE G ex i) oSetK
  | .never => sNever
  | .setF cs f o e => sFldC f (· ∈ cs) (rdE G ex e) (rdE G ex o)
  | .augN i o e => sAug i (oAug o) (rdE G ex e)
  | .augF cs f o e => sFldPlus f (· ∈ cs) (rdE G ex o) (rdE G ex e)
  | .forS T k it body => sFor (semIK k (rdLs G ex it)) (hT T) (rdSs G ex body)
  | .whileS t body => sWhile (rdT G ex t) (rdSs G ex body)
  | .raise c => sRaise c ex
  | .raiseE c e => sRaiseE c ex (rdE G ex e)
  | .tryS cs body suite => sTry (fun c => decide (c ∈ cs)) (fun ex' => rdSs G ex' body) (rdSs G (fun _ _ _ => False) suite) ex
  | .tryA cs i body suite => fun D σ C => rdSs G (fun y σ1 C1 => if decide (y.cls ∈ cs) = true then ∀ a, C1 a = none → rdSs G (fun _ _ _ => False) suite { D with nx := fun σ' C' => D.nx (σ'.set i none) C', bk := fun σ' C' => D.bk (σ'.set i none) C', ct := fun σ' C' => D.ct (σ'.set i none) C' } (σ1.set i (some (.ref a))) C1 else ex y σ1 C1) body D σ C
  | .tryK cs i body suite rest t ie => fun D σ C => rdSs G (fun y σ1 C1 => if decide (y.cls ∈ cs) = true then y.fs = [] ∧ ∀ a, C1 a = none → rdSs G (fun _ _ _ => False) suite { nx := fun σ2 C2 => sCaught G ex cs t ie a y.cls D (σ2.set i none) C2, rt := fun _ _ => False } (σ1.set i (some (.ref a))) C1 else ex y σ1 C1) body { D with nx := fun σ2 C2 => rdSs G ex rest D σ2 C2 } σ C
def rdSs (G : G3) (ex : Kxs) : List CS → CTS
  | [] => sNext
  | s :: r => sSeq (rdS G ex s) (rdSs G ex r)
end
end L3

namespace L3
open PySem L2
/-! ### equality of data, decided -/
mutual
def beqD : D → D → Bool
  | .non, .non => true
  | .bl a, .bl b => a == b
  | .int a, .int b => a == b
  | .str a, .str b => decide (a = b)
  | .ty a, .ty b => decide (a = b)
  | .tup a, .tup b => beqDs a b
  | .rls a, .rls b => beqDs a b
  | .ref a, .ref b => Nat.beq a b
  | _, _ => false
def beqDs : List D → List D → Bool
  | [], [] => true
  | a :: as, b :: bs => beqD a b && beqDs as bs
  | _, _ => false
end
mutual
theorem beqD_eq : ∀ {a b : D}, beqD a b = true → a = b
  | .non, b, h => by cases b <;> first | rfl | (simp [beqD] at h)
  | .bl a, b, h => by cases b <;> simp [beqD] at h; rw [h]
  | .int a, b, h => by cases b <;> simp [beqD] at h; rw [h]
  | .str a, b, h => by cases b <;> simp [beqD] at h; rw [h]
  | .ty a, b, h => by cases b <;> simp [beqD] at h; rw [h]
  | .tup a, b, h => by
    cases b with
    | tup b => simp only [beqD] at h; rw [beqDs_eq h]
    | _ => simp [beqD] at h
  | .rls a, b, h => by
    cases b with
    | rls b => simp only [beqD] at h; rw [beqDs_eq h]
    | _ => simp [beqD] at h
  | .ref a, b, h => by
    cases b with
    | ref b => simp only [beqD] at h; rw [Nat.eq_of_beq_eq_true h]
    | _ => simp [beqD] at h
theorem beqDs_eq : ∀ {a b : List D}, beqDs a b = true → a = b
  | [], b, h => by cases b <;> first | rfl | (simp [beqDs] at h)
  | a :: as, b, h => by
    cases b with
    | nil => simp [beqDs] at h
    | cons b bs =>
      simp only [beqDs, Bool.and_eq_true] at h
      rw [beqD_eq h.1, beqDs_eq h.2]
end
def beqS : Src → Src → Bool
  | .pos a, .pos b => a == b
  | .kw a, .kw b => a == b
  | .dfl a, .dfl b => beqD a b
  | _, _ => false
theorem beqS_eq {a b : Src} (h : beqS a b = true) : a = b := by
  cases a <;> cases b <;> first | (simp [beqS] at h; rw [h]) | (simp only [beqS] at h; rw [beqD_eq h]) | (simp [beqS] at h)
def beqSs : List Src → List Src → Bool
  | [], [] => true
  | a :: as, b :: bs => beqS a b && beqSs as bs
  | _, _ => false
theorem beqSs_eq : ∀ {a b : List Src}, beqSs a b = true → a = b
  | [], [], _ => rfl
  | [], _ :: _, h => by simp [beqSs] at h
  | _ :: _, [], h => by simp [beqSs] at h
  | a :: as, b :: bs, h => by
    simp only [beqSs, Bool.and_eq_true] at h
    rw [beqS_eq h.1, beqSs_eq h.2]
/-- a call's form: its keywords, how many, how they are bound -/
def shC (kn : Option (List Str)) (k : Nat) (o : List Str → Option (Nat × List Src)) (np : Nat) (g : List Src) : Bool := match kn with
  | some kn => decide (kn.length = k) && (match o kn with | some (np', g') => decide (np' = np) && beqSs g g' | none => false)
  | none => false
/-! ### the names of a law -/
structure Tab where
  fn : Str → Option Nat
  cls : Str → Option Nat
  glb : Str → Option D
  blt : Str → Bool
  shape : Nat → Nat → List Str → Option (Nat × List Src)
  init : Nat → Option Nat
  own : Nat → Option Nat
  ownL : Nat → Option Nat
  ownB : Nat → Option Nat
  mth : Nat → Str → Option Nat
  attr : Nat → Str → Bool
  exc : Nat → Bool
  xcl : Nat → Bool
  xkit : Nat → String ⊕ Nat → Option Bool
  tch : Str → List Nat → Bool
  gdc : Str → Option (List (Str × Int))
def nmV (N : List Str) (sc : Scope) (x : Str) (i : Nat) : Bool := decide (N[i]? = some x) && (match sc.names.lookup x with | some .local => true | some .cell => true | some .free => true | _ => false) && !(x == ("__debug__" : Str)) && !(x == ("__classdict__" : Str))
def glN (sc : Scope) (x : Str) : Bool := decide (sc.names.lookup x = some .globalImplicit) && !(x == ("__debug__" : Str))
def nmL (N : List Str) (sc : Scope) (x : Str) (i : Nat) : Bool := decide (N[i]? = some x) && (match sc.names.lookup x with | some .local => true | some .cell => true | _ => false)
def biN : BI → Str
  | .len => "len" | .int => "int" | .list => "list" | .tuple => "tuple" | .sum => "sum" | .all => "all" | .any => "any" | .maxL => "max" | .max2 => "max" | .min2 => "min" | .abs => "abs" | .repr => "repr" | .str => "str"
def biA : BI → Nat → Bool
  | .max2, n => n == 2
  | .min2, n => n == 2
  | _, n => n == 1
def miN : MI → Str
  | .append => "append" | .extend => "extend" | .pop => "pop" | .popAt => "pop" | .join => "join" | .get2 => "get"
def miA : MI → Nat → Bool
  | .pop, n => n == 0
  | .get2, n => n == 2
  | _, n => n == 1
def opN : OpB → Operator
  | .add => .Add | .sub => .Sub | .mul => .Mult | .fdiv => .FloorDiv | .mod => .Mod | .pow => .Pow
def opCN : OpC → CmpOp
  | .eq => .Eq | .ne => .NotEq | .lt => .Lt | .le => .LtE | .gt => .Gt | .ge => .GtE | .is => .Is | .isNot => .IsNot
  | .inK => .In | .notInK => .NotIn | .inD => .In | .notInD => .NotIn | .inF => .In | .notInF => .NotIn | .inS => .In | .notInS => .NotIn
def notSet : Expr → Bool
  | .Set .. => false
  | _ => true
def notComp : Expr → Bool
  | .ListComp .. => false
  | .SetComp .. => false
  | .DictComp .. => false
  | _ => true
def tgC (N : List Str) (sc : Scope) (tg : Expr) : CT → Bool
  | .nm i => match tg with | .Name x _ => nmL N sc x i | _ => false
  | .tp is => match tg with
    | .Tuple xs _ _ => decide (xs.length = is.length) && (xs.zip is).all fun p => match p.1 with | .Name x _ => nmL N sc x p.2 | _ => false
    | _ => false
def tgNs : Expr → List Str
  | .Name x _ => [x]
  | .Tuple xs _ _ => xs.filterMap fun e => match e with | .Name x _ => some x | _ => none
  | _ => []
def chkBool (f : Expr → CE → Bool) (op : BoolOp) : List Expr → CE → Bool
  | [e], c => f e c
  | e :: r, c => match op, c with
    | .And, .and a b => f e a && chkBool f op r b
    | .Or, .or a b => f e a && chkBool f op r b
    | _, _ => false
  | [], _ => false
def chkAs (f : Expr → CE → Bool) : List Expr → List CE → Bool
  | [], [] => true
  | e :: es, c :: cs => notStar e && f e c && chkAs f es cs
  | _, _ => false
def chkKs (f : Expr → CE → Bool) : List Keyword → List CE → Bool
  | [], [] => true
  | ⟨_, e, _⟩ :: es, c :: cs => f e c && chkKs f es cs
  | _, _ => false
def chkDs (f : Expr → CE → Bool) : List (Option Expr) → List Expr → List CE → List CE → Bool
  | [], [], [], [] => true
  | some k :: ks, v :: vs, c :: cs, d :: ds => f k c && f v d && chkDs f ks vs cs ds
  | _, _, _, _ => false
def chkO (f : Expr → CE → Bool) : Option Expr → Option CE → Bool
  | none, none => true
  | some e, some c => f e c
  | _, _ => false
def chkIfs (f : Expr → CE → Bool) : List Expr → List CE → Bool
  | [], [] => true
  | [e], [c] => f e c
  | _, _ => false
def isTup : Expr → Bool
  | .Tuple .. => true
  | _ => false
def chkIt (T : Tab) (sc : Scope) (f : Expr → CE → Bool) (tg iter : Expr) : IK → List CE → Bool
  | .seq, [a] => f iter a && notSet iter
  | .txt, [a] => f iter a && notSet iter
  | .rg1, [a] => match iter with | .Call (.Name x _) [e] [] _ => decide (x = "range") && glN sc x && T.blt x && notStar e && f e a | _ => false
  | .rg2, [a, b] => match iter with | .Call (.Name x _) [e, e'] [] _ => decide (x = "range") && glN sc x && T.blt x && notStar e && notStar e' && f e a && f e' b | _ => false
  | .rg3, [a, b, c] => match iter with | .Call (.Name x _) [e, e', e''] [] _ => decide (x = "range") && glN sc x && T.blt x && notStar e && notStar e' && notStar e'' && f e a && f e' b && f e'' c | _ => false
  | .rvs, [a] => match iter with | .Call (.Name x _) [e] [] _ => decide (x = "reversed") && glN sc x && T.blt x && notStar e && f e a | _ => false
  | .enu, [a] => match iter with | .Call (.Name x _) [e] [] _ => decide (x = "enumerate") && glN sc x && T.blt x && notStar e && f e a && isTup tg | _ => false
  | _, _ => false
def isiC (T : Tab) (sc : Scope) (u : String ⊕ Nat) (c : Expr) : Bool := match c with
  | .Name x _ => glN sc x && notStar c && (match u with
    | .inl n => T.blt x && decide (bootBuiltins x = some (.type n)) && !decide (x = ("__name__" : Str))
    | .inr k => decide (T.cls x = some k))
  | _ => false
variable (T : Tab) (N : List Str)
mutual
def chkE : Nat → Scope → Expr → CE → Bool
  | 0, _, _, _ => false
  | n + 1, sc, e, c => match c with
    | .var i => match e with | .Name x _ => nmV N sc x i | _ => false
    | .cst d => match e with
      | .Constant k _ _ => match k, d with
        | .none, .non => true
        | .bool a, .bl b => a == b
        | .int a, .int b => a == b
        | .str a, .str b => decide (a = b)
        | _, _ => false
      | _ => false
    | .glb x d => match e with | .Name y _ => decide (x = y) && glN sc y && (match T.glb y with | some d' => beqD d d' | none => false) | _ => false
    | .bin o a b => match e with | .BinOp x op y _ => decide (op = opN o) && chkE n sc x a && chkE n sc y b | _ => false
    | .neg a => match e with | .UnaryOp .USub x _ => chkE n sc x a | _ => false
    | .cmp o a b => match e with | .Compare x [op] [y] _ => decide (op = opCN o) && notSet y && chkE n sc x a && chkE n sc y b | _ => false
    | .chain o o' a b c => match e with | .Compare x [op, op'] [y, z] _ => decide (op = opCN o) && decide (op' = opCN o') && notSet z && chkE n sc x a && chkE n sc y b && chkE n sc z c | _ => false
    | .and _ _ => match e with | .BoolOp .And es _ => chkBool (chkE n sc) .And es c | _ => false
    | .or _ _ => match e with | .BoolOp .Or es _ => chkBool (chkE n sc) .Or es c | _ => false
    | .not a => match e with | .UnaryOp .Not x _ => chkE n sc x a | _ => false
    | .ite t a b => match e with | .IfExp z x y _ => chkT n sc z t && chkE n sc x a && chkE n sc y b | _ => false
    | .tup es => match e with | .Tuple xs _ _ => chkAs (chkE n sc) xs es | _ => false
    | .lst es => match e with | .List xs _ => chkAs (chkE n sc) xs es | _ => false
    | .dic ks vs => match e with | .Dict xs ys _ => chkDs (chkE n sc) xs ys ks vs && !xs.isEmpty && decide (xs.length ≤ 15) && decide (xs.length = ys.length) | _ => false
    | .idx a b => match e with | .Subscript x y _ => chkE n sc x a && chkE n sc y b && notSlice y | _ => false
    | .idxK a b => match e with | .Subscript x y _ => chkE n sc x a && chkE n sc y b && notSlice y | _ => false
    | .rev a => match e with | .Subscript x (.Slice none none (some (.UnaryOp .USub (.Constant (.int 1) _ _) _)) _) _ => chkE n sc x a | _ => false
    | .dtk0 => match e with | .Dict [] [] _ => true | _ => false
    | .dtk1 a b => match e with | .Dict [some x] [y] _ => chkE n sc x a && chkE n sc y b | _ => false
    | .nev => notComp e
    | .slice a lo hi => match e with | .Subscript x (.Slice l h none _) _ => chkE n sc x a && chkO (chkE n sc) l lo && chkO (chkE n sc) h hi | _ => false
    | .call f np m k g es ks => match e with
      | .Call (.Name x _) xs kws _ => glN sc x && decide (T.fn x = some f) && shC (kwNames kws) k (T.shape f m) np g && chkAs (chkE n sc) xs es && chkKs (chkE n sc) kws ks
      | _ => false
    | .make c f np m k g es ks => match e with
      | .Call (.Name x _) xs kws _ => glN sc x && decide (T.cls x = some c) && decide (T.init c = some f) && shC (kwNames kws) k (T.shape f (m + 1)) np g && chkAs (chkE n sc) xs es && chkKs (chkE n sc) kws ks
      | _ => false
    | .meth c nm f np m k g o es ks => match e with
      | .Call (.Attribute x a ap) xs kws cp => (ap.endLine == cp.line) && decide (xs.length + kws.length + 1 < 30) && decide (a = nm) && decide (T.mth c nm = some f) && shC (kwNames kws) k (T.shape f (m + 1)) np g && chkE n sc x o && chkAs (chkE n sc) xs es && chkKs (chkE n sc) kws ks && noSuper x
      | _ => false
    | .isi u a => match e with | .Call (.Name x _) [y, z] [] _ => decide (x = ("isinstance" : Str)) && glN sc x && T.blt x && chkE n sc y a && notStar y && isiC T sc u z | _ => false
    | .bi b es => match e with | .Call (.Name x _) xs [] _ => decide (x = biN b) && glN sc x && T.blt x && biA b xs.length && chkAs (chkE n sc) xs es | _ => false
    | .mt m o es => match e with | .Call (.Attribute x a ap) xs [] cp => decide (a = miN m) && miA m xs.length && chkE n sc x o && chkAs (chkE n sc) xs es && noSuper x && (ap.endLine == cp.line) | _ => false
    | .eqO c f np g ne a b => match e with | .Compare x [op] [y] _ => decide (op = if ne = true then .NotEq else .Eq) && notSet y && decide (T.own c = some f) && shC (some []) 0 (T.shape f 2) np g && decide (g.length = np) && chkE n sc x a && chkE n sc y b | _ => false
    | .eqX c f np g ne a b => match e with | .Compare x [op] [y] _ => decide (op = if ne = true then .NotEq else .Eq) && notSet y && decide (T.own c = some f) && shC (some []) 0 (T.shape f 2) np g && decide (g.length = np) && chkE n sc x a && chkE n sc y b | _ => false
    | .ninO c f np g a b => match e with | .Compare x [op] [y] _ => decide (op = .NotIn) && notSet y && decide (T.own c = some f) && shC (some []) 0 (T.shape f 2) np g && decide (g.length = np) && chkE n sc x a && chkE n sc y b | _ => false
    | .orO c f np g a b => match e with | .BinOp x .BitOr y _ => decide (T.ownB c = some f) && shC (some []) 0 (T.shape f 2) np g && decide (g.length = np) && chkE n sc x a && chkE n sc y b | _ => false
    | .tupS a b => match e with | .Tuple [x, .Starred y _] _ _ => notStar x && chkE n sc x a && chkE n sc y b | _ => false
    | .lenO c f np g a => match e with | .Call (.Name x _) [y] [] _ => decide (x = ("len" : Str)) && glN sc x && T.blt x && decide (T.ownL c = some f) && shC (some []) 0 (T.shape f 1) np g && decide (g.length = np) && notStar y && chkE n sc y a | _ => false
    | .lenN a => match e with | .Call (.Name x _) [.Call (.Name y _) [e1] [] _] [] _ => decide (x = ("len" : Str)) && glN sc x && T.blt x && decide (y = ("set" : Str)) && glN sc y && T.blt y && notStar e1 && chkE n sc e1 a | _ => false
    | .getW x tab a b => match e with | .Call (.Attribute (.Name y _) g ap) [e1, e2] [] cp => decide (x = y) && decide (g = ("get" : Str)) && glN sc y && decide (T.gdc y = some tab) && (ap.endLine == cp.line) && notStar e1 && notStar e2 && chkE n sc e1 a && chkE n sc e2 b | _ => false
    | .srt a => match e with | .Call (.Name x _) [.Call (.Name y _) [e1] [] _] [] _ => decide (x = ("sorted" : Str)) && glN sc x && T.blt x && decide (y = ("set" : Str)) && glN sc y && T.blt y && notStar e1 && chkE n sc e1 a | _ => false
    | .lzip a b => match e with | .Call (.Name x _) [.Call (.Name y _) [e1, e2] [] _] [] _ => decide (x = ("list" : Str)) && glN sc x && T.blt x && decide (y = ("zip" : Str)) && glN sc y && T.blt y && notStar e1 && notStar e2 && chkE n sc e1 a && chkE n sc e2 b | _ => false
    | .attr cs f o => match e with | .Attribute x a _ => decide (a = f) && (cs.all fun c => T.attr c f) && chkE n sc x o && noSuper x | _ => false
    | .lc c T' vs k it ifs => match e with
      | .ListComp elt [⟨tg, iter, ifs', asy⟩] scope _ => decide (asy = 0) && blkC N sc scope ((tgNs tg).zip T'.slots) && decide (vs = T'.slots) && decide ((tgNs tg).length = T'.slots.length) && tgC N scope tg T' && chkIt T sc (chkE n sc) tg iter k it && chkIfs (chkT n (relS scope sc)) ifs' ifs && chkE n (relS scope sc) elt c && notSet iter
      | _ => false
def chkT : Nat → Scope → Expr → CE → Bool
  | 0, _, _, _ => false
  | n + 1, sc, e, c => match c with
    | .and _ _ => match e with | .BoolOp .And es _ => chkBool (chkT n sc) .And es c | _ => false
    | .or _ _ => match e with | .BoolOp .Or es _ => chkBool (chkT n sc) .Or es c | _ => false
    | .not a => match e with | .UnaryOp .Not x _ => chkT n sc x a | _ => false
    | .cmp o a b => match e with | .Compare x [op] [y] _ => decide (op = opCN o) && notSet y && chkE n sc x a && chkE n sc y b | _ => false
    | .chain o o' a b c => match e with | .Compare x [op, op'] [y, z] _ => decide (op = opCN o) && decide (op' = opCN o') && notSet z && chkE n sc x a && chkE n sc y b && chkE n sc z c | _ => false
    | .eqO c f np g ne a b => match e with | .Compare x [op] [y] _ => decide (op = if ne = true then .NotEq else .Eq) && notSet y && decide (T.own c = some f) && shC (some []) 0 (T.shape f 2) np g && decide (g.length = np) && chkE n sc x a && chkE n sc y b | _ => false
    | .eqX c f np g ne a b => match e with | .Compare x [op] [y] _ => decide (op = if ne = true then .NotEq else .Eq) && notSet y && decide (T.own c = some f) && shC (some []) 0 (T.shape f 2) np g && decide (g.length = np) && chkE n sc x a && chkE n sc y b | _ => false
    | .ninO c f np g a b => match e with | .Compare x [op] [y] _ => decide (op = .NotIn) && notSet y && decide (T.own c = some f) && shC (some []) 0 (T.shape f 2) np g && decide (g.length = np) && chkE n sc x a && chkE n sc y b | _ => false
    | c => plainTest e && chkE n sc e c
end
def chkSs (f : Stmt → CS → Bool) : List Stmt → List CS → Bool
  | [], [] => true
  | s :: r, c :: cs => f s c && chkSs f r cs
  | _, _ => false
/-- names told apart: the pair is stored by swapping (all local), or by a tuple (one is a cell) -/
def parOk (sc : Scope) (ts vs : List Expr) : Bool := false
def chkSuite (N : List Str) (sc : Scope) : Stmt → CS → Bool
  | .Assign [.Name x _] e _, .asg (.nm i) (.var j) => (match e with | .Name y _ => nmV N sc y j | _ => false) && decide (N[i]? = some x) && decide (sc.names.lookup x = some .local)
  | .Assign [.Name x _] e _, .asg (.nm i) (.cst d) => (match e, d with
      | .Constant .none _ _, .non => true
      | .Constant (.bool a) _ _, .bl b => a == b
      | .Constant (.str a) _ _, .str b => decide (a = b)
      | _, _ => false) && decide (N[i]? = some x) && decide (sc.names.lookup x = some .local)
  | .Return (some e) _, .ret (.cst d) => (match e, d with
      | .Constant .none _ _, .non => true
      | .Constant (.bool a) _ _, .bl b => a == b
      | .Constant (.str a) _ _, .str b => decide (a = b)
      | _, _ => false)
  | .Pass _, .pass => true
  | .Continue _, .cont => true
  | _, _ => false
def chkS : Nat → Scope → Stmt → CS → Bool
  | 0, _, _, _ => false
  | n + 1, sc, s, c => match c with
    | .pass => match s with | .Pass _ => true | _ => false
    | .brk => match s with | .Break _ => true | _ => false
    | .cont => match s with | .Continue _ => true | _ => false
    | .retN => match s with | .Return none _ => true | _ => false
    | .expr c => match s with | .Expr e _ => chkE T N n sc e c && notComp e | _ => false
    | .ret c => match s with | .Return (some e) _ => chkE T N n sc e c | _ => false
    | .ifS t a b => match s with | .If e x y _ => chkT T N n sc e t && chkSs (chkS n sc) x a && chkSs (chkS n sc) y b | _ => false
    | .asg (.nm i) c => match s with
      | .Assign [.Name x xp] e p => nmL N sc x i && chkE T N n sc e c && (notComp e || (match e with
        | .ListComp _ [_] scope cp => (match sc.names.lookup x with | some .local => (xp.line == cp.line) && !(scope.names.any fun (n, k) => n == x && (k == .local || k == .cell)) | _ => true)
        | _ => false))
      | _ => false
    | .asg (.tp is) c => match s with
      | .Assign [.Tuple xs a b] e _ => tgC N sc (.Tuple xs a b) (.tp is) && chkE T N n sc e c && notComp e && (match e with | .Tuple vs _ _ => decide (4 ≤ xs.length) || xs.any (fun z => match z with | .Name y _ => !decide (sc.names.lookup y = some .local) | _ => false) || vs.all (foldedForSure 8) | _ => true)
      | _ => false
    | .par i j a b => match s with
      | .Assign [.Tuple [.Name x xp, .Name y yp] _ _] (.Tuple [e, e'] _ _) _ => decide (N[i]? = some x) && decide (N[j]? = some y) && decide (i ≠ j) && decide (sc.names.lookup x = some .local) && decide (sc.names.lookup y = some .local) && chkE T N n sc e a && chkE T N n sc e' b && notStar e && notStar e' && (xp.line == yp.line) && !(foldedForSure 8 e && foldedForSure 8 e') && !(constantsAlone 8 e && constantsAlone 8 e') && decide (x ≠ y)
      | _ => false
    | .par3 i j l a b c => match s with
      | .Assign [.Tuple [.Name x xp, .Name y yp, .Name z zp] _ _] (.Tuple [e, e', e2] _ _) _ => decide (N[i]? = some x) && decide (N[j]? = some y) && decide (N[l]? = some z) && decide (i ≠ j) && decide (i ≠ l) && decide (j ≠ l) && decide (sc.names.lookup x = some .local) && decide (sc.names.lookup y = some .local) && decide (sc.names.lookup z = some .local) && chkE T N n sc e a && chkE T N n sc e' b && chkE T N n sc e2 c && notStar e && notStar e' && notStar e2 && (xp.line == yp.line) && (xp.line == zp.line) && !(foldedForSure 8 e && (foldedForSure 8 e' && foldedForSure 8 e2)) && !(constantsAlone 8 e && (constantsAlone 8 e' && constantsAlone 8 e2)) && decide (x ≠ y) && decide (x ≠ z) && decide (y ≠ z)
      | _ => false
    | .setI o i c => match s with | .Assign [.Subscript x y _] e _ => chkE T N n sc x o && chkE T N n sc y i && chkE T N n sc e c && notComp e && notSlice y | _ => false
    | .setK o i c => match s with | .Assign [.Subscript x y _] e _ => chkE T N n sc x o && chkE T N n sc y i && chkE T N n sc e c && notComp e && notSlice y | _ => false
    | .never => true
    | .setF cs f o c => match s with | .Assign [.Attribute x a _] e _ => decide (a = f) && (cs.all fun c => T.attr c f) && chkE T N n sc x o && chkE T N n sc e c && notComp e | _ => false
    | .augF cs f o c => match s with | .AugAssign (.Attribute x a _) op e _ => decide (op = .Add) && decide (a = f) && (cs.all fun c => T.attr c f) && chkE T N n sc x o && chkE T N n sc e c | _ => false
    | .augN i o c => match s with | .AugAssign (.Name x _) op e _ => nmL N sc x i && decide (op = opN o) && (decide (o = .add) || decide (o = .sub)) && chkE T N n sc e c | _ => false
    | .forS T' k it body => match s with | .For tg iter b [] _ => tgC N sc tg T' && chkIt T sc (chkE T N n sc) tg iter k it && notSet iter && chkSs (chkS n sc) b body | _ => false
    | .whileS t body => match s with | .While e b [] _ => chkT T N n sc e t && chkSs (chkS n sc) b body | _ => false
    | .raise c => match s with | .Raise (some (.Call (.Name x _) [.Constant (.str _) _ _] [] _)) none _ => glN sc x && decide (T.cls x = some c) && T.exc c | _ => false
    | .raiseE c e => match s with | .Raise (some (.Call (.Name x _) [y] [] _)) none _ => glN sc x && decide (T.cls x = some c) && T.exc c && notStar y && chkE T N n sc y e | _ => false
    | .tryS cs body suite => match s with
      | .Try b [.ExceptHandler (some (.Name x _)) none (s0 :: su) _] [] [] _ => glN sc x && T.tch x cs && chkSs (chkS n sc) b body && chkSs (chkSuite N sc) (s0 :: su) suite
      | _ => false
    | .tryK _ _ _ _ _ _ _ => false
    | .tryA cs i body suite => match s with
      | .Try b [.ExceptHandler (some (.Name x _)) (some y) (s0 :: su) _] [] [] _ => glN sc x && T.tch x cs && decide (N[i]? = some y) && decide (sc.names.lookup y = some .local) && chkSs (chkS n sc) b body && chkSs (chkSuite N sc) (s0 :: su) suite
      | _ => false
section
variable (T : Tab) (N : List Str)
/-- isinstance(name j, u) -/
def chkIsx (sc : Scope) (e : Expr) (ans : List (Nat × Bool)) (u : String ⊕ Nat) (j : Nat) : Bool := match e with
  | .Call (.Name x _) [.Name m p, z] [] _ => (ans.all fun q => decide (T.xkit q.1 u = some q.2)) && decide (x = ("isinstance" : Str)) && glN sc x && T.blt x && nmV N sc m j && isiC T sc u z
  | _ => false
def chkIT (fuel : Nat) (sc : Scope) : IE → Expr → Bool
  | .leaf c, e => chkT T N fuel sc e c
  | .isx ans u j, e => chkIsx T N sc e ans u j
  | .and2 a b, .BoolOp .And [x, y] _ => chkIT fuel sc a x && chkIT fuel sc b y
  | .and3 a b c, .BoolOp .And [x, y, z] _ => chkIT fuel sc a x && (chkIT fuel sc b y && chkIT fuel sc c z)
  | .or2 a b, .BoolOp .Or [x, y] _ => chkIT fuel sc a x && chkIT fuel sc b y
  | .not a, .UnaryOp .Not x _ => chkIT fuel sc a x
  | _, _ => false
def chkI (fuel : Nat) (sc : Scope) : IE → Expr → Bool
  | .leaf c, e => chkE T N fuel sc e c
  | .isx ans u j, e => chkIsx T N sc e ans u j
  | .and2 a b, .BoolOp .And [x, y] _ => chkI fuel sc a x && chkI fuel sc b y
  | .and3 a b c, .BoolOp .And [x, y, z] _ => chkI fuel sc a x && (chkI fuel sc b y && chkI fuel sc c z)
  | .or2 a b, .BoolOp .Or [x, y] _ => chkI fuel sc a x && chkI fuel sc b y
  | .not a, .UnaryOp .Not x _ => chkI fuel sc a x
  | .ite t a b, .IfExp z x y _ => chkIT T N fuel sc t z && (chkI fuel sc a x && chkI fuel sc b y)
  | _, _ => false
/-- a try whose exception is held by what stands behind it -/
def chkK (fuel : Nat) (sc : Scope) (s : Stmt) (r : List Stmt) : CS → Bool
  | .tryK cs i body suite rest t ie => (match s with
      | .Try b [.ExceptHandler (some (.Name x _)) (some y) (s0 :: su) _] [] [] _ => glN sc x && T.tch x cs && cs.all T.xcl && decide (N[i]? = some y) && decide (sc.names.lookup y = some .local) && chkSs (chkS T N fuel sc) b body && chkSs (chkSuite N sc) (s0 :: su) suite
      | _ => false) && chkSs (chkS T N fuel sc) r rest && (match r with
      | [.If e _ [] _, .Return (some e2) _] => chkT T N fuel sc e t && chkI T N fuel sc ie e2
      | _ => false)
  | _ => false
def isK : CS → Bool
  | .tryK _ _ _ _ _ _ _ => true
  | _ => false
/-- a def's statements -/
def chkTop (fuel : Nat) (sc : Scope) : List Stmt → List CS → Bool
  | [], [] => true
  | s :: r, c :: cs => if isK c = true then cs.isEmpty && chkK T N fuel sc s r c else chkS T N fuel sc s c && chkTop fuel sc r cs
  | _, _ => false
end
end L3

namespace L3
open PySem L2
/-- a def (or method) at a, numbered f -/
def FnAt (P : Program) (w : World) (K : PySem.W.Frag) (mg : Str → Option Value) (base : Heap) (cl : ClsT) (T : Tab) (sem : SemF) (k f : Nat) (a : Addr) : Prop :=
  ∃ fd ps np, FnOkG P w K mg base (L2.CX P w) k a fd ps (spC K cl np sem) ∧ ∀ m ks np' g, T.shape f m ks = some (np', g) → np' = np ∧ BindsC K fd ps m ks g
structure Facts (T : Tab) (P : Program) (w : World) (K : PySem.W.Frag) (mg : Str → Option Value) (base : Heap) (cl : ClsT) (G : G3) (n : Nat) : Prop where
  lv : 10 ≤ n
  clP : cl.P = P
  clw : cl.w = w
  fn : ∀ x f, T.fn x = some f → ∃ a, mg x = some (.ref a) ∧ PySem.W.keepIn K (.ref a) = true ∧ FnAt P w K mg base cl T (G.call f) n f a
  cls : ∀ x c, T.cls x = some c → ∃ Ca, cl c = some Ca ∧ mg x = some (.ref Ca)
  init : ∀ c f, T.init c = some f → ∃ Ca a, cl c = some Ca ∧ Mk K Ca a ∧ ∃ fd ps np, ((∀ ds C Q E, ¬ G.make f ds C Q E) ∨ ∃ k, FnOkG P w K mg base (L2.CX P w) k a fd ps (spC K cl np (G.make f)) ∧ k + 1 ≤ n) ∧ ∀ m ks np' g, T.shape f m ks = some (np', g) → np' = np ∧ BindsC K fd ps m ks g
  own : ∀ c f, T.own c = some f → ∃ Ca a, cl c = some Ca ∧ OwnEX K Ca a ∧ ∃ fd ps np k, FnOkG P w K mg base (L2.CX P w) k a fd ps (spC K cl np (G.make f)) ∧ k + 1 ≤ n ∧ ∀ m ks np' g, T.shape f m ks = some (np', g) → np' = np ∧ BindsC K fd ps m ks g
  ownL : ∀ c f, T.ownL c = some f → ∃ Ca a, cl c = some Ca ∧ OwnL K Ca a ∧ ∃ fd ps np k, FnOkG P w K mg base (L2.CX P w) k a fd ps (spC K cl np (G.make f)) ∧ k + 1 ≤ n ∧ ∀ m ks np' g, T.shape f m ks = some (np', g) → np' = np ∧ BindsC K fd ps m ks g
  ownB : ∀ c f, T.ownB c = some f → ∃ Ca a, cl c = some Ca ∧ OwnB K Ca a ∧ FnAt P w K mg base cl T (G.call f) n f a
  xcl : ∀ c Ca, T.xcl c = true → cl c = some Ca → ExcC K Ca
  xkit : ∀ c u b Ca, T.xkit c u = some b → cl c = some Ca → ∃ vu, tyVal cl u = some vu ∧ PySem.W.kitOne K (.ref Ca) vu = some b
  mth : ∀ c m f, T.mth c m = some f → ∃ Ca a, cl c = some Ca ∧ Cls K Ca ∧ Meth K Ca m a ∧ FnAt P w K mg base cl T (G.call f) n f a
  glb : ∀ x d, T.glb x = some d → ∃ u v, mg x = some u ∧ RelV v u ∧ ∀ H, Rep K H d v
  blt : ∀ x, T.blt x = true → mg x = none
  attr : ∀ c f Ca, T.attr c f = true → cl c = some Ca → Cls K Ca ∧ NoAttr K Ca f
  kit : KitOk K cl G.kit
  kitc : ∀ c u b Ca, G.kit (.inr c) u = some b → cl c = some Ca → ClsOk K Ca
  exc : ∀ c Ca, T.exc c = true → cl c = some Ca → PySem.W.excIn K Ca [.type "ValueError", .type "Exception", .type "BaseException", .type "object"] "ValueError.__new__" = true ∧ PySem.W.keepIn K (.ref Ca) = true ∧ PySem.W.subIn K (.ref Ca) (.type "BaseException") = some true ∧ PySem.W.typeIn K (.ref Ca) = some (.type "type")
  tch : ∀ x cs, T.tch x cs = true → ∃ c, (mg x = some c ∨ (mg x = none ∧ bootBuiltins x = some c ∧ x ≠ "__name__")) ∧ SubOk K cl c fun i => decide (i ∈ cs)
  gdc : ∀ x tab, T.gdc x = some tab → ∃ p, mg x = some (.ref p) ∧ WDct K w p tab ∧ ∃ es m, K.lookup p = some ⟨.type "dict", none, .dict es m, #[]⟩
section
variable {N : List Str} {sc : Scope} {x : Str} {i : Nat}
theorem nmV_ok (h : nmV N sc x i = true) : N[i]? = some x ∧ Vis sc x ∧ (x == ("__debug__" : Str)) = false ∧ (x == ("__classdict__" : Str)) = false := by
  unfold nmV at h
  simp only [Bool.and_eq_true, decide_eq_true_eq, Bool.not_eq_true'] at h
  obtain ⟨⟨⟨h1, h2⟩, h3⟩, h4⟩ := h
  refine ⟨h1, ?_, h3, h4⟩
  unfold Vis
  split at h2 <;> first | (cases h2; done) | simp_all
theorem nmL_ok (h : nmL N sc x i = true) : N[i]? = some x ∧ Loc sc x := by
  unfold nmL at h
  simp only [Bool.and_eq_true, decide_eq_true_eq] at h
  obtain ⟨h1, h2⟩ := h
  refine ⟨h1, ?_⟩
  unfold L2.Loc
  split at h2 <;> first | (cases h2; done) | simp_all
theorem glN_ok {X : Cx} (e : X.env.scope = sc) (h : glN sc x = true) : Gl X x ∧ (x == ("__debug__" : Str)) = false := by
  unfold glN at h
  simp only [Bool.and_eq_true, decide_eq_true_eq, Bool.not_eq_true'] at h
  refine ⟨?_, h.2⟩
  show X.env.scope.names.lookup x = _
  rw [e]; exact h.1
theorem notSet_fold {e : Expr} {env : Env} (h : notSet e = true) : ∀ x, foldedSetIterable e env x = pure x := fun x => by
  cases e <;> first | rfl | cases h
theorem notSet_mark {e : Expr} {op : CmpOp} (h : notSet e = true) : behindInMarks op e = false := by
  cases e <;> first | rfl | cases h
theorem plain_of {e : Expr} {env : Env} (h : plainTest e = true) : ∀ whole, isTrue e env whole = (do let v ← whole; standAt e.pos; holding [v] (truthy v)) := fun whole => by
  cases e with
  | UnaryOp op a p => cases op <;> first | rfl | cases h
  | _ => first | rfl | cases h
theorem swap_none {e : Expr} {t : Option Expr} {l : Nat} {env : Env} (h : notComp e = true) : swapsWith e t l env = pure false := by
  cases e <;> first | rfl | cases h
end
section
variable {T : Tab} {P : Program} {w : World} {K : PySem.W.Frag} {mg : Str → Option Value} {base : Heap} {cl : ClsT} {G : G3} {n : Nat} {N : List Str}
theorem takes_bot {X : Cx} {H0 : Hp} {C0 : CH} : Takes X (WC K cl H0 C0 fun _ _ _ => False) := fun u s' ⟨_, _, _, _, _, _, _, _, _, _, _, _, _, _, _, _, _, _, _, z, _⟩ => z.elim
/-- the statement of what the checker is worth -/
def SndE (P : Program) (w : World) (K : PySem.W.Frag) (mg : Str → Option Value) (base : Heap) (cl : ClsT) (G : G3) (n : Nat) (N : List Str) (sc : Scope) (e : Expr) (c : CE) : Prop :=
  ∀ top X H0 C0 ex, XOk P w K mg base n N sc top X → Takes X (WC K cl H0 C0 ex) → CPE X cl H0 C0 e (rdE G ex c)
def SndT (P : Program) (w : World) (K : PySem.W.Frag) (mg : Str → Option Value) (base : Heap) (cl : ClsT) (G : G3) (n : Nat) (N : List Str) (sc : Scope) (e : Expr) (c : CE) : Prop :=
  ∀ top X H0 C0 ex, XOk P w K mg base n N sc top X → Takes X (WC K cl H0 C0 ex) → CPT X cl H0 C0 e (rdT G ex c)
variable {X : Cx} {top : Bool} {H0 : Hp} {C0 : CH} {ex : Kxs} {sc : Scope} {f : Expr → CE → Bool}
theorem snd_args (ok : XOk P w K mg base n N sc top X) (tk : Takes X (WC K cl H0 C0 ex)) (hf : ∀ e c, f e c = true → SndE P w K mg base cl G n N sc e c) : ∀ {es : List Expr} {cs : List CE}, chkAs f es cs = true → CPA X cl H0 C0 es (rdA G ex cs) ∧ es.all notStar = true ∧ es.length = cs.length ∧ (es = [] → rdA G ex cs = cNil)
  | [], [], _ => ⟨cpa_nil, rfl, rfl, fun _ => rfl⟩
  | [], _ :: _, h => by simp [chkAs] at h
  | _ :: _, [], h => by simp [chkAs] at h
  | e :: es, c :: cs, h => by
    simp only [chkAs, Bool.and_eq_true] at h
    obtain ⟨⟨h1, h2⟩, h3⟩ := h
    obtain ⟨a, b, l, _⟩ := snd_args ok tk hf h3
    exact ⟨cpa_cons (hf e c h2 _ X H0 C0 ex ok tk) a (star_of h1), by rw [List.all_cons, h1, b]; rfl, congrArg (· + 1) l, fun z => nomatch z⟩
theorem snd_kws (ok : XOk P w K mg base n N sc top X) (tk : Takes X (WC K cl H0 C0 ex)) (hf : ∀ e c, f e c = true → SndE P w K mg base cl G n N sc e c) : ∀ {es : List Keyword} {cs : List CE}, chkKs f es cs = true → CPK X cl H0 C0 es (rdA G ex cs)
  | [], [], _ => cpk_nil
  | [], _ :: _, h => by simp [chkKs] at h
  | ⟨_, _, _⟩ :: _, [], h => by simp [chkKs] at h
  | ⟨nm, e, p⟩ :: es, c :: cs, h => by
    simp only [chkKs, Bool.and_eq_true] at h
    exact cpk_cons (hf e c h.1 _ X H0 C0 ex ok tk) (snd_kws ok tk hf h.2)
theorem snd_o (ok : XOk P w K mg base n N sc top X) (tk : Takes X (WC K cl H0 C0 ex)) (hf : ∀ e c, f e c = true → SndE P w K mg base cl G n N sc e c) : ∀ {e : Option Expr} {c : Option CE}, chkO f e c = true → CPO X cl H0 C0 e (rdO G ex c)
  | none, none, _ => cpo_none
  | some e, some c, h => cpo_some (hf e c h _ X H0 C0 ex ok tk)
  | none, some _, h => by simp [chkO] at h
  | some _, none, h => by simp [chkO] at h
theorem snd_ifs (ok : XOk P w K mg base n N sc top X) (tk : Takes X (WC K cl H0 C0 ex)) (hf : ∀ e c, f e c = true → SndT P w K mg base cl G n N sc e c) {es : List Expr} {cs : List CE} (h : chkIfs f es cs = true) : CPTs X cl H0 C0 es (rdIfs G ex cs) := by
  match es, cs, h with
  | [], [], _ => exact cpts_nil
  | [e], [c], h => exact cpts_one (hf e c h _ X H0 C0 ex ok tk)
  | [], _ :: _, h => simp [chkIfs] at h
  | [_], [], h => simp [chkIfs] at h
  | [_], _ :: _ :: _, h => simp [chkIfs] at h
  | _ :: _ :: _, _, h => simp [chkIfs] at h
theorem snd_boolE_and (ok : XOk P w K mg base n N sc top X) (tk : Takes X (WC K cl H0 C0 ex)) (hf : ∀ e c, f e c = true → SndE P w K mg base cl G n N sc e c) {pos : Pos} : ∀ {es : List Expr} {c : CE}, chkBool f .And es c = true → CPE X cl H0 C0 (.BoolOp .And es pos) (rdE G ex c)
  | [], c, h => by simp [chkBool] at h
  | [e], c, h => cpe_one (hf e c (by simpa [chkBool] using h) _ X H0 C0 ex ok tk)
  | e :: e' :: r, c, h => by
    cases c with
    | and a b =>
      simp only [chkBool, Bool.and_eq_true] at h
      exact cpe_and (hf e a h.1 _ X H0 C0 ex ok tk) (snd_boolE_and ok tk hf h.2)
    | _ => simp [chkBool] at h
theorem snd_boolE_or (ok : XOk P w K mg base n N sc top X) (tk : Takes X (WC K cl H0 C0 ex)) (hf : ∀ e c, f e c = true → SndE P w K mg base cl G n N sc e c) {pos : Pos} : ∀ {es : List Expr} {c : CE}, chkBool f .Or es c = true → CPE X cl H0 C0 (.BoolOp .Or es pos) (rdE G ex c)
  | [], c, h => by simp [chkBool] at h
  | [e], c, h => cpe_one (hf e c (by simpa [chkBool] using h) _ X H0 C0 ex ok tk)
  | e :: e' :: r, c, h => by
    cases c with
    | or a b =>
      simp only [chkBool, Bool.and_eq_true] at h
      exact cpe_or (hf e a h.1 _ X H0 C0 ex ok tk) (snd_boolE_or ok tk hf h.2)
    | _ => simp [chkBool] at h
theorem snd_boolT_and (ok : XOk P w K mg base n N sc top X) (tk : Takes X (WC K cl H0 C0 ex)) (hf : ∀ e c, f e c = true → SndT P w K mg base cl G n N sc e c) {pos : Pos} : ∀ {es : List Expr} {c : CE}, chkBool f .And es c = true → CPW X cl H0 C0 (.BoolOp .And es pos) (rdT G ex c)
  | [], c, h => by simp [chkBool] at h
  | [e], c, h => cpw_and1 (hf e c (by simpa [chkBool] using h) _ X H0 C0 ex ok tk)
  | e :: e' :: r, c, h => by
    cases c with
    | and a b =>
      simp only [chkBool, Bool.and_eq_true] at h
      exact cpw_and (hf e a h.1 _ X H0 C0 ex ok tk) (snd_boolT_and ok tk hf h.2)
    | _ => simp [chkBool] at h
theorem snd_boolT_or (ok : XOk P w K mg base n N sc top X) (tk : Takes X (WC K cl H0 C0 ex)) (hf : ∀ e c, f e c = true → SndT P w K mg base cl G n N sc e c) {pos : Pos} : ∀ {es : List Expr} {c : CE}, chkBool f .Or es c = true → CPW X cl H0 C0 (.BoolOp .Or es pos) (rdT G ex c)
  | [], c, h => by simp [chkBool] at h
  | [e], c, h => cpw_or1 (hf e c (by simpa [chkBool] using h) _ X H0 C0 ex ok tk)
  | e :: e' :: r, c, h => by
    cases c with
    | or a b =>
      simp only [chkBool, Bool.and_eq_true] at h
      exact cpw_or (hf e a h.1 _ X H0 C0 ex ok tk) (snd_boolT_or ok tk hf h.2)
    | _ => simp [chkBool] at h
theorem snd_it (F : Facts T P w K mg base cl G n) (ok : XOk P w K mg base n N sc top X) (tk : Takes X (WC K cl H0 C0 ex)) (hf : ∀ e c, f e c = true → SndE P w K mg base cl G n N sc e c) {tg iter : Expr} {k : IK} {cs : List CE} (h : chkIt T sc f tg iter k cs = true) : CPI X cl H0 C0 tg iter (semIK k (rdLs G ex cs)) ∧ notSet iter = true := by
  cases k with
  | seq =>
    match cs, h with
    | [a], h =>
      simp only [chkIt, Bool.and_eq_true] at h
      exact ⟨cpi_seq (hf _ _ h.1 _ X H0 C0 ex ok tk), h.2⟩
    | [], h => simp [chkIt] at h
    | _ :: _ :: _, h => simp [chkIt] at h
  | txt =>
    match cs, h with
    | [a], h =>
      simp only [chkIt, Bool.and_eq_true] at h
      exact ⟨cpi_txt (hf _ _ h.1 _ X H0 C0 ex ok tk), h.2⟩
    | [], h => simp [chkIt] at h
    | _ :: _ :: _, h => simp [chkIt] at h
  | rg1 =>
    match cs, h with
    | [a], h =>
      simp only [chkIt] at h
      split at h
      · simp only [Bool.and_eq_true, decide_eq_true_eq] at h
        obtain ⟨⟨⟨⟨h1, h2⟩, h3⟩, h4⟩, h5⟩ := h
        subst h1
        obtain ⟨g1, g2⟩ := glN_ok ok.sc_ h2
        have hm := F.blt _ h3
        rw [← ok.mg_] at hm
        exact ⟨cpi_rg1 g1 hm (cpa_cons (hf _ _ h5 _ X H0 C0 ex ok tk) cpa_nil (star_of h4)) (star_of h4), rfl⟩
      · cases h
    | [], h => simp [chkIt] at h
    | _ :: _ :: _, h => simp [chkIt] at h
  | rg2 =>
    match cs, h with
    | [a, b], h =>
      simp only [chkIt] at h
      split at h
      · simp only [Bool.and_eq_true, decide_eq_true_eq] at h
        obtain ⟨⟨⟨⟨⟨⟨h1, h2⟩, h3⟩, h4⟩, h5⟩, h6⟩, h7⟩ := h
        subst h1
        obtain ⟨g1, g2⟩ := glN_ok ok.sc_ h2
        have hm := F.blt _ h3
        rw [← ok.mg_] at hm
        refine ⟨cpi_rg2 g1 hm (cpa_cons (hf _ _ h6 _ X H0 C0 ex ok tk) (cpa_cons (hf _ _ h7 _ X H0 C0 ex ok tk) cpa_nil (star_of h5)) (star_of h4)) ?_ (star_of h5), rfl⟩
        rw [star_of h4, star_of h5]; rfl
      · cases h
    | [], h => simp [chkIt] at h
    | [_], h => simp [chkIt] at h
    | _ :: _ :: _ :: _, h => simp [chkIt] at h
  | rg3 =>
    match cs, h with
    | [a, b, c], h =>
      simp only [chkIt] at h
      split at h
      · simp only [Bool.and_eq_true, decide_eq_true_eq] at h
        obtain ⟨⟨⟨⟨⟨⟨⟨⟨h1, h2⟩, h3⟩, h4⟩, h5⟩, h5'⟩, h6⟩, h7⟩, h8⟩ := h
        subst h1
        obtain ⟨g1, g2⟩ := glN_ok ok.sc_ h2
        have hm := F.blt _ h3
        rw [← ok.mg_] at hm
        refine ⟨cpi_rg3 g1 hm (cpa_cons (hf _ _ h6 _ X H0 C0 ex ok tk) (cpa_cons (hf _ _ h7 _ X H0 C0 ex ok tk) (cpa_cons (hf _ _ h8 _ X H0 C0 ex ok tk) cpa_nil (star_of h5')) (star_of h5)) (star_of h4)) (star_of h4) ?_, rfl⟩
        rw [star_of h5, star_of h5']; rfl
      · cases h
    | [], h => simp [chkIt] at h
    | [_], h => simp [chkIt] at h
    | [_, _], h => simp [chkIt] at h
    | _ :: _ :: _ :: _ :: _, h => simp [chkIt] at h
  | rvs =>
    match cs, h with
    | [a], h =>
      simp only [chkIt] at h
      split at h
      · simp only [Bool.and_eq_true, decide_eq_true_eq] at h
        obtain ⟨⟨⟨⟨h1, h2⟩, h3⟩, h4⟩, h5⟩ := h
        subst h1
        obtain ⟨g1, g2⟩ := glN_ok ok.sc_ h2
        have hm := F.blt _ h3
        rw [← ok.mg_] at hm
        exact ⟨cpi_rvs g1 hm (hf _ _ h5 _ X H0 C0 ex ok tk) (star_of h4), rfl⟩
      · cases h
    | [], h => simp [chkIt] at h
    | _ :: _ :: _, h => simp [chkIt] at h
  | enu =>
    match cs, h with
    | [a], h =>
      simp only [chkIt] at h
      split at h
      · simp only [Bool.and_eq_true, decide_eq_true_eq] at h
        obtain ⟨⟨⟨⟨⟨h1, h2⟩, h3⟩, h4⟩, h5⟩, h6⟩ := h
        subst h1
        obtain ⟨g1, g2⟩ := glN_ok ok.sc_ h2
        have hm := F.blt _ h3
        rw [← ok.mg_] at hm
        cases tg with
        | Tuple elts kk tpos => exact ⟨cpi_enu g1 hm (hf _ _ h5 _ X H0 C0 ex ok tk) (star_of h4), rfl⟩
        | _ => cases h6
      · cases h
    | [], h => simp [chkIt] at h
    | _ :: _ :: _, h => simp [chkIt] at h
/-- a chain of two comparisons -/
theorem tChain_of {r r' : R2} {o o' : O2} {ca cb cc : CTE} (l : Lk2 X.K cl r o) (l' : Lk2 X.K cl r' o') : ∀ σ H Q, tE X.K cl H0 C0 (cChain o o' ca cb cc) σ H Q → tChain r r' (tE X.K cl H0 C0 ca) (tE X.K cl H0 C0 cb) (tE X.K cl H0 C0 cc) σ H Q :=
  fun σ H Q ⟨σc, C, Qc, S, h, hq⟩ => ⟨σc, C, _, S, h, fun d C1 v H1 h1 rv R1 k1 => ⟨σc, C1, _, S.step k1 R1, h1, fun e C2 u H2 h2 ru R2 k2 =>
    l H2 C2 d e v u _ _ (rv.keep R1 k2) ru R2 h2 fun z C3 w3 H3 ⟨k, ez, h3⟩ rz R3 k3 => by
      subst ez; cases rz
      refine ⟨k, rfl, ?_⟩
      have kk := (k1.trans k2).trans k3
      cases k with
      | true => exact iteT ⟨σc, C3, _, S.step kk R3, h3, fun f C4 w4 H4 h4 rf R4 k4 => l' H4 C4 e f u w4 Q Qc ((ru.keep R2 k3).keep R3 k4) rf R4 h4 (hq.from_ (kk.trans k4))⟩
      | false => exact iteF (hq _ _ _ _ h3 (.bl _) R3 kk)⟩⟩
theorem cpe_chain {op op' : CmpOp} {r r' : R2} {o o' : O2} {a b c : Expr} {ca cb cc : CTE} {pos : Pos} (ho : OpR X (compareOp op) r) (ho' : OpR X (compareOp op') r') (l : Lk2 X.K cl r o) (l' : Lk2 X.K cl r' o') (ha : CPE X cl H0 C0 a ca) (hb : CPE X cl H0 C0 b cb) (hc : CPE X cl H0 C0 c cc)
    (hm : lastMarks [op, op'] [b, c] = false) : CPE X cl H0 C0 (.Compare a [op, op'] [b, c] pos) (cChain o o' ca cb cc) := (pe_chain ho ho' ha hb hc hm).imp (tChain_of l l')
theorem cpt_chain {op op' : CmpOp} {r r' : R2} {o o' : O2} {a b c : Expr} {ca cb cc : CTE} {pos : Pos} (ho : OpR X (compareOp op) r) (ho' : OpR X (compareOp op') r') (l : Lk2 X.K cl r o) (l' : Lk2 X.K cl r' o') (ha : CPE X cl H0 C0 a ca) (hb : CPE X cl H0 C0 b cb) (hc : CPE X cl H0 C0 c cc)
    (hm : lastMarks [op, op'] [b, c] = false) : CPT X cl H0 C0 (.Compare a [op, op'] [b, c] pos) (cTst (cChain o o' ca cb cc)) :=
  (pt_chain ho ho' ha hb hc hm).imp fun σ H Q ⟨σc, C, Qc, S, h, hq⟩ => tChain_of l l' σ H _ ⟨σc, C, _, S, h, fun z C1 v H1 ⟨b, h1, h2⟩ rz R1 k1 => by
    subst h1; cases rz
    exact ⟨b, rfl, hq _ _ _ h2 R1 k1⟩⟩
/-! ### operators by their codes -/
theorem lk_I2 {P : Int → Int → Prop} {g : Int → Int → V} {g' : Int → Int → D} (hg : ∀ H i j, Rep K H (g' i j) (g i j)) : Lk2 K cl (rI P g) (oI2 P g') := fun H C d e v u Q Qc rd re R h hq => by
  cases d with
  | int i =>
    cases e with
    | int j => cases rd; cases re; exact ⟨i, j, rfl, rfl, h.1, hq.now h.2 (hg H i j) R⟩
    | _ => exact h.elim
  | _ => exact h.elim
theorem lk_I20 {g : Int → Int → V} {g' : Int → Int → D} (hg : ∀ H i j, Rep K H (g' i j) (g i j)) : Lk2 K cl (rI0 g) (oI2 (fun _ _ => True) g') := fun H C d e v u Q Qc rd re R h hq => by
  cases d with
  | int i =>
    cases e with
    | int j => cases rd; cases re; exact ⟨i, j, rfl, rfl, hq.now h.2 (hg H i j) R⟩
    | _ => exact h.elim
  | _ => exact h.elim
theorem lk_addA : Lk2 K cl (fun x y H Q => rI0 (fun i j => .int (i + j)) x y H Q ∨ ((∃ i j, x = .str i ∧ y = .str j ∧ i.length + j.length ≤ sizeLine ∧ Q (.str (i ++ j)) H) ∨ (rCatA K x y H Q ∨ rCat x y H Q))) oAddA := fun H C d e v u Q Qc rd re R h hq => by
  cases d with
  | int i =>
    cases e with
    | int j => cases rd; cases re; exact .inl ⟨i, j, rfl, rfl, hq.now h (.int _) R⟩
    | _ => exact h.elim
  | str i =>
    cases e with
    | str j => exact .inr (.inl (lk_addS H C _ _ v u Q Qc rd re R ⟨i, j, rfl, rfl, h.1, h.2⟩ hq))
    | _ => exact h.elim
  | tup xs =>
    cases e with
    | tup ys => exact .inr (.inr (.inl (lk_catT H C _ _ v u Q Qc rd re R ⟨xs, ys, rfl, rfl, h.1, h.2⟩ hq)))
    | _ => exact h.elim
  | ref a =>
    cases e with
    | ref b =>
      obtain ⟨xs, ys, h1, h2, h3, h4⟩ := h
      exact .inr (.inr (.inr (lk_cat H C _ _ v u Q Qc rd re R ⟨a, b, xs, ys, rfl, rfl, h1, h2, h3, h4⟩ hq)))
    | _ => exact h.elim
  | _ => exact h.elim
theorem lk_mulA {K : PySem.W.Frag} : Lk2 K cl (fun x y H Q => rI CMul (fun i j => .int (i * j)) x y H Q ∨ (rRepU K x y H Q ∨ (rRep x y H Q ∨ rRepS x y H Q))) oMulA := fun H C d e v u Q Qc rd re R h hq => by
  cases d with
  | str z =>
    cases e with
    | int k => cases rd; cases re; exact .inr (.inr (.inr ⟨z, k, rfl, rfl, h.1, h.2.1, h.2.2.1, hq.now h.2.2.2 (.str _) R⟩))
    | _ => exact h.elim
  | int i =>
    cases e with
    | int j => cases rd; cases re; exact .inl ⟨i, j, rfl, rfl, h.1, hq.now h.2 (.int _) R⟩
    | _ => exact h.elim
  | tup xs =>
    cases e with
    | int k => exact .inr (.inl (lk_mulT H C _ _ v u Q Qc rd re R ⟨xs, k, rfl, rfl, h.1, h.2.1, h.2.2.1, h.2.2.2.1, h.2.2.2.2⟩ hq))
    | _ => exact h.elim
  | ref a =>
    cases e with
    | int k =>
      obtain ⟨xs, h1, h2, h3, h4, h5⟩ := h
      cases rd; cases re
      obtain ⟨vs, g1, r1⟩ := R a _ h1
      exact .inr (.inr (.inl ⟨a, k, vs, rfl, rfl, g1, h2, h3, by rw [← r1.length]; exact h4, fun l hl => hq.lst (r1.rep _) R hl (h5 l (free_of R hl))⟩))
    | _ => exact h.elim
  | _ => exact h.elim
theorem semB_ok (o : OpB) : ∃ r, OpR X (binaryOp (opN o)) r ∧ Lk2 X.K cl r (semB o) := by
  cases o with
  | add => exact ⟨_, op_add.or (op_add_str.or (op_catA.or op_cat)), lk_addA⟩
  | sub => exact ⟨_, op_sub, lk_I20 fun _ _ _ => .int _⟩
  | mul => exact ⟨_, op_mul.or (op_repU.or (op_rep.or op_repS)), lk_mulA⟩
  | fdiv => exact ⟨_, op_fdivN, lk_I2 fun _ _ _ => .int _⟩
  | mod => exact ⟨_, op_modN, lk_I2 fun _ _ _ => .int _⟩
  | pow => exact ⟨_, op_pow, lk_I2 fun _ _ _ => .int _⟩
theorem semC_ok (hP : cl.P = X.prog) (hw : cl.w = X.w) (h10 : 10 ≤ n) (hr : Room n X.A) (o : OpC) : ∃ r, OpR X (compareOp (opCN o)) r ∧ Lk2 X.K cl r (semC o) := by
  have hu : X.A.units + 65 < cLine := by have := hr.un; omega
  cases o with
  | eq => exact ⟨_, op_eqN (by have := hr.un; omega), lk_eqN id⟩
  | ne => exact ⟨_, op_neN (by have := hr.un; omega), lk_eqN not⟩
  | lt => exact ⟨_, op_lt, lk_I20 fun _ _ _ => .bl _⟩
  | le => exact ⟨_, op_le, lk_I20 fun _ _ _ => .bl _⟩
  | gt => exact ⟨_, op_gt, lk_I20 fun _ _ _ => .bl _⟩
  | ge => exact ⟨_, op_ge, lk_I20 fun _ _ _ => .bl _⟩
  | is => exact ⟨_, op_isN, lk_is⟩
  | isNot => exact ⟨_, op_notN, lk_isnot⟩
  | inD => exact ⟨_, op_inD hu, lk_inD⟩
  | inK => exact ⟨_, op_inK hP hw (by omega), lk_inK id⟩
  | notInK => exact ⟨_, op_notInK hP hw (by omega), lk_inK not⟩
  | notInD => exact ⟨_, op_notInD hu, lk_notInD⟩
  | inF => exact ⟨_, op_in_seq, lk_inF⟩
  | notInF => exact ⟨_, op_notIn_seq, lk_notInF⟩
  | inS => exact ⟨_, op_in_sign, lk_inS⟩
  | notInS => exact ⟨_, op_notIn_sign, lk_notInS⟩
theorem lk_neg : Lk1 K cl (rU fun i => .int (-i)) oNeg := fun H C d v Q Qc rd R h hq => by
  cases d with
  | int i => cases rd; exact ⟨i, rfl, hq.now h (.int _) R⟩
  | _ => exact h.elim
theorem semBI_ok (hc : X.calm = true) (hgd : X.A.guards = some []) (h10 : 10 ≤ n) (hr : Room n X.A) (b : BI) : ∃ r, ((CallR X (.builtin (String.ofList ((biN b).cps.toList.map Char.ofNat))) r ∧ bootBuiltins (biN b) = some (.builtin (String.ofList ((biN b).cps.toList.map Char.ofNat)))) ∨ (CallR X (.type (String.ofList ((biN b).cps.toList.map Char.ofNat))) r ∧ bootBuiltins (biN b) = some (.type (String.ofList ((biN b).cps.toList.map Char.ofNat))))) ∧ LkL X.K cl r (semBI b) := by
  cases b with
  | len => exact ⟨_, .inl ⟨call_len_seq.or call_len_str, by decide +kernel⟩, lk_len⟩
  | int => exact ⟨_, .inr ⟨call_int1, by decide +kernel⟩, lk_int⟩
  | list => exact ⟨_, .inr ⟨call_list_of, by decide +kernel⟩, lk_list⟩
  | tuple => exact ⟨_, .inr ⟨call_tuple_of, by decide +kernel⟩, lk_tuple⟩
  | sum => exact ⟨_, .inl ⟨cr_sum hc, by decide +kernel⟩, lk_sum⟩
  | all => exact ⟨_, .inl ⟨cr_all hc, by decide +kernel⟩, lk_allB⟩
  | any => exact ⟨_, .inl ⟨cr_any hc, by decide +kernel⟩, lk_anyB⟩
  | maxL => exact ⟨_, .inl ⟨cr_max hc, by decide +kernel⟩, lk_maxL⟩
  | max2 => exact ⟨_, .inl ⟨call_max2 hc, by decide +kernel⟩, lk_max2⟩
  | min2 => exact ⟨_, .inl ⟨call_min2 hc, by decide +kernel⟩, lk_min2⟩
  | abs => exact ⟨_, .inl ⟨call_abs, by decide +kernel⟩, lk_abs⟩
  | repr => exact ⟨_, .inl ⟨call_reprA hgd (by have := hr.un; omega), by decide +kernel⟩, lk_repr⟩
  | str => exact ⟨_, .inr ⟨call_str_int, by decide +kernel⟩, lk_strI⟩
/-! ### displays of dicts -/
theorem cDic_ok (ok : XOk P w K mg base n N sc top X) (tk : Takes X (WC K cl H0 C0 ex)) (hf : ∀ e c, f e c = true → SndE P w K mg base cl G n N sc e c) {pos : Pos} : ∀ {ks : List (Option Expr)} {vs : List Expr} {cs ds : List CE}, chkDs f ks vs cs ds = true →
    ∃ trs, PPs X pos ks vs trs ∧ ks.all (·.isSome) = true ∧ ∀ σ H σc C Qc (Q : List (V × V) → Hp → Prop), S3 X.K cl H0 C0 σ H σc C → cPrs (rdLs G ex cs) (rdLs G ex ds) σc C Qc →
      (∀ ps C' qs H', Qc ps C' → RepL X.K H' (ps.map (·.1)) (qs.map (·.1)) → RepL X.K H' (ps.map (·.2)) (qs.map (·.2)) → Rel X.K cl H' C' → Keep H C H' C' → Q qs H') → tPairs trs σ H Q
  | [], [], [], [], _ => ⟨[], pps_nil, rfl, fun σ H σc C Qc Q S h hq => hq [] C [] H h .nil .nil S.r Keep.refl⟩
  | some k :: ks, v :: vs, c :: cs, d :: ds, h => by
    simp only [chkDs, Bool.and_eq_true] at h
    obtain ⟨⟨h1, h2⟩, h3⟩ := h
    obtain ⟨trs, p, a, q⟩ := cDic_ok ok tk hf h3
    refine ⟨_, pps_cons (hf k c h1 _ X H0 C0 ex ok tk) (hf v d h2 _ X H0 C0 ex ok tk) p, by rw [List.all_cons, a]; rfl, fun σ H σc C Qc Q S h hq => ⟨σc, C, _, S, h, fun x C1 xv H1 h1 rx R1 k1 => ⟨σc, C1, _, S.step k1 R1, h1, fun y C2 yv H2 h2 ry R2 k2 => ?_⟩⟩⟩
    refine q σ H2 σc C2 _ _ ((S.step k1 R1).step k2 R2) h2 fun ps C3 qs H3 h3 r1 r2 R3 k3 => ?_
    exact hq _ C3 _ H3 h3 (.cons ((rx.keep R1 k2).keep R2 k3) r1) (.cons (ry.keep R2 k3) r2) R3 ((k1.trans k2).trans k3)
  | [], [], [], _ :: _, h => by simp [chkDs] at h
  | [], [], _ :: _, _, h => by simp [chkDs] at h
  | [], _ :: _, _, _, h => by simp [chkDs] at h
  | none :: _, _, _, _, h => by simp [chkDs] at h
  | some _ :: _, [], _, _, h => by simp [chkDs] at h
  | some _ :: _, _ :: _, [], _, h => by simp [chkDs] at h
  | some _ :: _, _ :: _, _ :: _, [], h => by simp [chkDs] at h
theorem dicOf_rep {H : Hp} : ∀ {kvs : List (Key × D)} {vs : List (Key × V)} {acc : List (Key × D)} {acv : List (Key × V)}, RepF K H kvs vs → RepF K H acc acv → RepF K H (kvs.foldl (fun acc p => putC acc p.1 p.2) acc) (vs.foldl (fun acc p => putK acc p.1 p.2) acv)
  | [], vs, acc, acv, h, a => by cases h; exact a
  | (k, d) :: kvs, vs, acc, acv, h, a => by
    cases h with
    | cons r t =>
      rename_i v vs'
      exact dicOf_rep (kvs := kvs) (vs := vs') (acc := putC acc k d) (acv := putK acv k v) t (a.put _ r)
theorem cpe_dic (ok : XOk P w K mg base n N sc top X) (tk : Takes X (WC K cl H0 C0 ex)) (hf : ∀ e c, f e c = true → SndE P w K mg base cl G n N sc e c) {pos : Pos} {ks : List (Option Expr)} {vs : List Expr} {cs ds : List CE} (h : chkDs f ks vs cs ds = true) (h0 : ks ≠ []) (h15 : ks.length ≤ 15) (hl : ks.length = vs.length) :
    CPE X cl H0 C0 (.Dict ks vs pos) (cDic (rdLs G ex cs) (rdLs G ex ds)) := by
  obtain ⟨trs, p, a, q⟩ := cDic_ok (pos := pos) ok tk hf h
  refine (pe_disp p a hl h0 h15).imp fun σ H Q ⟨σc, C, Qc, S, h, hq⟩ p hp => ?_
  have R1 := S.r.newH hp (.dK [])
  have k1 := keep_newH hp (.dK []) S.r
  refine q σ _ σc C _ _ (S.step k1 R1) h fun ps C3 qs H3 ⟨kvs, e1, e2, e3, h3⟩ r1 r2 R3 k3 => ?_
  have hC : C p = none := free_of S.r hp
  obtain ⟨hp3, hC3⟩ := k3 p _ upd_same hC
  -- the pairs by keys
  have go : ∀ (ps : List (D × D)) (qs : List (V × V)) (kvs : List (Key × D)), RepL X.K H3 (ps.map (·.1)) (qs.map (·.1)) → RepL X.K H3 (ps.map (·.2)) (qs.map (·.2)) → kvs.map (fun p => p.2) = ps.map (·.2) → ps.map (fun p => keyD p.1) = kvs.map (fun p => some p.1) →
      ∃ kvv : List (Key × V), qs = kvv.map (fun kv => (kV kv.1, kv.2)) ∧ RepF X.K H3 kvs kvv := by
    intro ps
    induction ps with
    | nil =>
      intro qs kvs a1 a2 a3 a4
      cases qs with
      | nil =>
        cases kvs with
        | nil => exact ⟨[], rfl, .nil⟩
        | cons _ _ => cases a3
      | cons _ _ => cases a1
    | cons pr ps ih =>
      intro qs kvs a1 a2 a3 a4
      cases qs with
      | nil => cases a1
      | cons qr qs =>
        cases kvs with
        | nil => cases a3
        | cons kr kvs =>
          rw [List.map_cons, List.map_cons] at a1 a2 a3 a4
          cases a1 with
          | cons x1 t1 =>
            cases a2 with
            | cons x2 t2 =>
              injection a3 with b1 b2
              injection a4 with c1 c2
              obtain ⟨kvv, d1, d2⟩ := ih qs kvs t1 t2 b2 c2
              have ek := keyD_rep c1 x1
              obtain ⟨q1, q2⟩ := qr
              obtain ⟨k1', k2'⟩ := kr
              simp only at b1 x2 ek
              subst b1
              exact ⟨(k1', q2) :: kvv, by rw [d1, List.map_cons]; exact congrArg (· :: _) (Prod.ext ek rfl), .cons x2 d2⟩
  obtain ⟨kvv, d1, d2⟩ := go ps qs kvs r1 r2 e1 e2
  refine ⟨hp3, kvv, d1, by rw [← d2.length]; exact e3, ?_⟩
  have dr := dicOf_rep (K := X.K) (H := H3) d2 .nil
  have nt : ∀ (b : Addr) (xs : List V), Rd H3 b (.tup xs) → b ≠ p := fun b xs h z => by
    subst z
    rcases h with h | ⟨u, h⟩ <;> (rw [hp3] at h; cases h)
  -- the dict at p is written: seen from a clean heap that knows it as empty
  have R4 : Rel X.K cl H3 (cup C3 p (.dic [])) := fun b o hb => by
    by_cases z : b = p
    · subst z; rw [cup_same] at hb; cases hb; exact ⟨[], hp3, .nil⟩
    · rw [cup_ne z] at hb; exact R3 b o hb
  have kw : Keep H3 (cup C3 p (.dic [])) (upd H3 p (.dK (mergeK [] kvv))) (cup (cup C3 p (.dic [])) p (.dic (dicOf kvs))) := Keep.write cup_same _ _
  have R5 := R4.write (u' := .dic (dicOf kvs)) (o' := .dK (mergeK [] kvv)) cup_same hp3 (fun xs h => nt p xs h rfl) ⟨_, upd_same, dr.keep R4 kw⟩
  rw [cup_cup] at R5
  refine hq _ _ _ _ (h3 p hC3) (.ref p) R5 fun b o hb hn => ?_
  obtain ⟨z1, z2⟩ := (k1.trans k3) b o hb hn
  have nb : b ≠ p := ne_of_none hb hp
  exact ⟨by rw [upd_ne nb]; exact z1, by rw [cup_ne nb]; exact z2⟩

theorem kshape {np k : Nat} {g : List Src} {kn : Option (List Str)} {o : List Str → Option (Nat × List Src)} (h : shC kn k o np g = true) : ∃ ks, kn = some ks ∧ ks.length = k ∧ o ks = some (np, g) := by
  unfold shC at h
  cases kn with
  | none => cases h
  | some ks =>
    simp only [Bool.and_eq_true, decide_eq_true_eq] at h
    obtain ⟨h1, h2⟩ := h
    cases e : o ks with
    | none => rw [e] at h2; cases h2
    | some p =>
      obtain ⟨a, b⟩ := p
      rw [e] at h2
      simp only [Bool.and_eq_true, decide_eq_true_eq] at h2
      obtain ⟨h3, h4⟩ := h2
      exact ⟨ks, rfl, h1, by rw [e, h3, beqSs_eq h4]⟩
theorem room_mk {k n : Nat} {A : Around} (r : Room n A) (h : k + 1 ≤ n) : Room (k + 1) A := r.mono h
theorem lookup_mapv {α β : Type} {f : Str × α → Str × β} {g : Str → α → β} (hf : ∀ n k, f (n, k) = (n, g n k)) {x : Str} : ∀ {names : List (Str × α)}, (names.map f).lookup x = (names.lookup x).map (g x)
  | [] => rfl
  | (n, k) :: r => by
    rw [List.map_cons, hf, List.lookup_cons, List.lookup_cons, lookup_mapv hf]
    cases hb : x == n with
    | true =>
      have e : x = n := by simpa using hb
      subst e
      rfl
    | false => rfl
theorem rel_local {scope : Scope} {env : Env} {x : Str} {k : NameKind} (hk : (k == .free) = false) (h : scope.names.lookup x = some k) : (PySem.relabel scope env).names.lookup x = some k := by
  show (scope.names.map fun (n, k) => if (k == .free && env.scope.kind == .function && env.kindOf n == some .cell) then (n, .cell) else (n, k)).lookup x = some k
  rw [lookup_mapv (g := fun n k => if (k == .free && env.scope.kind == .function && env.kindOf n == some .cell) = true then .cell else k) (fun n k => by dsimp only; split <;> rfl), h]
  show some (if (k == .free && env.scope.kind == .function && env.kindOf x == some .cell) = true then .cell else k) = some k
  rw [hk]
  rfl
/-- the target of a comprehension -/
theorem blk_tg (ok : XOk P w K mg base n N sc top X) {scope : Scope} {tg : Expr} {T' : CT} (h : tgC N scope tg T' = true) {s : Shared} {H : Hp} {C : Addr} {cs : List (Str × Addr)} {fp : List Addr} :
    PG (X.blk s H scope (compEnvC scope cs C X.env) fp) tg (tgV K T') := by
  have one : ∀ x i, nmL N scope x i = true → (X.blk s H scope (compEnvC scope cs C X.env) fp).N[i]? = some x ∧ L2.Loc (X.blk s H scope (compEnvC scope cs C X.env) fp).env.scope x ∧ ((X.blk s H scope (compEnvC scope cs C X.env) fp).fn x = true ∨ (X.blk s H scope (compEnvC scope cs C X.env) fp).env.scope.names.lookup x = some .local) := fun x i hx => by
    obtain ⟨h1, h2⟩ := nmL_ok hx
    refine ⟨by show X.N[i]? = some x; rw [ok.N_]; exact h1, ?_, ?_⟩
    · rcases h2 with h2 | h2
      · exact .inl (rel_local rfl h2)
      · exact .inr (rel_local rfl h2)
    · rcases h2 with h2 | h2
      · exact .inr (rel_local rfl h2)
      · exact .inl (by show (scope.names.lookup x == some .cell) = true; rw [h2]; rfl)
  have nd : (X.blk s H scope (compEnvC scope cs C X.env) fp).N.Nodup := by show X.N.Nodup; rw [ok.N_]; exact ok.nd
  cases T' with
  | nm i =>
    unfold tgC at h
    simp only at h
    split at h
    · obtain ⟨a, b, c⟩ := one _ _ h
      exact pg_name nd a b c
    · cases h
  | tp is =>
    unfold tgC at h
    simp only at h
    split at h
    · rename_i xs k p
      simp only [Bool.and_eq_true, decide_eq_true_eq, List.all_eq_true] at h
      obtain ⟨hl, ha⟩ := h
      have ck : (X.blk s H scope (compEnvC scope cs C X.env) fp).K = K := ok.K_
      have len : ∀ (es : List Expr) (env : Env), (assignEach es env).length = es.length := fun es env => by
        induction es with
        | nil => rfl
        | cons e es ih => cases e <;> exact congrArg (· + 1) ih
      have names : ∀ e ∈ xs, ∃ x p, e = .Name x p := fun e he => by
        obtain ⟨j, hj, ej⟩ := List.getElem_of_mem he
        have := ha (e, is[j]'(by omega)) (by rw [← ej]; exact List.mem_of_getElem? (i := j) (by rw [List.getElem?_zip_eq_some]; exact ⟨List.getElem?_eq_getElem hj, List.getElem?_eq_getElem (by omega)⟩))
        cases e <;> first | exact ⟨_, _, rfl⟩ | (simp at this)
      have nostar : ∀ (es : List Expr) (env : Env), (∀ e ∈ es, ∃ x p, e = Expr.Name x p) → (assignEach es env).findIdx? (·.1) = none := fun es env => by
        induction es with
        | nil => intro _; rfl
        | cons e es ih =>
          intro hn
          obtain ⟨x, p, rfl⟩ := hn e List.mem_cons_self
          show List.findIdx? (·.1) ((false, _) :: assignEach es env) = none
          rw [List.findIdx?_cons]
          simp [ih fun e he => hn e (List.mem_cons_of_mem _ he)]
      have all := pgs_all (X := X.blk s H scope (compEnvC scope cs C X.env) fp) nd hl fun j e i a b => by
        have := ha (e, i) (List.mem_of_getElem? (i := j) (by rw [List.getElem?_zip_eq_some]; exact ⟨a, b⟩))
        cases e <;> first | (obtain ⟨a1, a2, a3⟩ := one _ _ this; exact ⟨_, _, rfl, a1, a2, a3⟩) | (simp at this)
      have := pg_tup (X := X.blk s H scope (compEnvC scope cs C X.env) fp) (k := k) (pos := p) (n := is.length) ok.calm all (by rw [len]; exact hl) (nostar _ _ names)
      rw [ck] at this
      exact this
    · cases h
theorem meth_tree {o : Expr} {m : Str} {apos pos : Pos} {es : List Expr} {kws : List Keyword} {ks : List Str} {env : Env} (hb : noSuper o = true) (hes : es.all notStar = true) (hks : kwNames kws = some ks) (hfew : es.length + kws.length + 1 < 30) (hline : (apos.endLine == pos.line) = true) :
    eval (.Call (.Attribute o m apos) es kws pos) env = (do
      let ov ← eval o env
      standAt apos.atName
      let (f, first) ← holding [ov] (getMethod ov m (do return (← importBound o env).getD true))
      callWith pos f first (backTo pos (starEach es env)) (backToKw pos (keywordEach kws env))) := by
  refine mcall_of (base_of hb) fun ov => ?_
  have e1 : (backTo pos (starEach es env)).all (!·.1) = true := by
    have := star_any (env := env) (pos := pos) hes
    rw [List.all_eq_not_any_not]
    simpa using this
  have e : methodCallForm (es.length + kws.length) (backTo pos (starEach es env)) (backToKw pos (keywordEach kws env)) = true := by
    unfold methodCallForm
    rw [e1, (kw_ok hks).1]
    simp only [Bool.true_and, decide_eq_true_eq]
    split <;> omega
  unfold methodCall methodCallPos
  rw [e, hline]
  rfl
end
end L3

namespace L3
open PySem L2
section
variable {T : Tab} {P : Program} {w : World} {K : PySem.W.Frag} {mg : Str → Option Value} {base : Heap} {cl : ClsT} {G : G3} {n : Nat} {N : List Str}
theorem blk_ok {top : Bool} {X : Cx} {sc scope : Scope} {s : Shared} {H : Hp} {C : Addr} {cs : List (Str × Addr)} {fp : List Addr} (ok : XOk P w K mg base n N sc top X) (hk : scope.kind = .function) : XOk P w K mg base n N (relS scope sc) false (X.blk s H scope (compEnvC scope cs C X.env) fp) := by
  refine ⟨ok.P_, ok.w_, ok.K_, ok.mg_, ok.base_, ok.N_, ok.nd, ?_, hk, ok.calm, ok.room, fun z => (nomatch z), PassesOwn.never, ok.gd, fun z => (nomatch z)⟩
  show PySem.relabel scope X.env = relS scope sc
  rw [← ok.sc_]
  rfl
theorem plain_if {c a b : Expr} {p : Pos} {env : Env} : True := trivial
theorem chk_sound (F : Facts T P w K mg base cl G n) : ∀ fuel sc e c, (chkE T N fuel sc e c = true → SndE P w K mg base cl G n N sc e c) ∧ (chkT T N fuel sc e c = true → SndT P w K mg base cl G n N sc e c)
  | 0, sc, e, c => ⟨fun h => by simp [chkE] at h, fun h => by simp [chkT] at h⟩
  | fuel + 1, sc, e, c => by
    have ihE : ∀ e c, chkE T N fuel sc e c = true → SndE P w K mg base cl G n N sc e c := fun e c => (chk_sound F fuel sc e c).1
    have ihT : ∀ e c, chkT T N fuel sc e c = true → SndT P w K mg base cl G n N sc e c := fun e c => (chk_sound F fuel sc e c).2
    refine ⟨fun h top X H0 C0 ex ok tk => ?_, fun h top X H0 C0 ex ok tk => ?_⟩
    · have go : ∀ {e c}, chkE T N fuel sc e c = true → CPE X cl H0 C0 e (rdE G ex c) := fun h => ihE _ _ h top X H0 C0 ex ok tk
      have goT : ∀ {e c}, chkT T N fuel sc e c = true → CPT X cl H0 C0 e (rdT G ex c) := fun h => ihT _ _ h top X H0 C0 ex ok tk
      have hu : X.A.units + 1 < cLine := hu_of ok.room
      cases c with
      | var i =>
        simp only [chkE] at h
        split at h
        · obtain ⟨h1, h2, h3, h4⟩ := nmV_ok h
          exact cpe_var (by rw [ok.N_]; exact h1) (by rw [ok.sc_]; exact h2) h3 h4
        · cases h
      | cst d =>
        simp only [chkE] at h
        split at h
        · split at h
          · exact cpe_non
          · rw [eq_of_beq h]; exact cpe_bl
          · rw [eq_of_beq h]; exact cpe_int
          · rw [of_decide_eq_true h]; exact cpe_str
          · cases h
        · cases h
      | glb x d =>
        simp only [chkE] at h
        split at h
        · simp only [Bool.and_eq_true, decide_eq_true_eq] at h
          obtain ⟨⟨h1, h2⟩, h3⟩ := h
          subst h1
          obtain ⟨g1, g2⟩ := glN_ok ok.sc_ h2
          split at h3
          · rename_i d' hd
            obtain ⟨u, v, m1, m2, m3⟩ := F.glb _ _ hd
            rw [← beqD_eq h3] at m3
            rw [← ok.mg_] at m1
            rw [← ok.K_] at m3
            exact cpe_glob g1 m1 m2 m3 g2
          · cases h3
        · cases h
      | bin o a b =>
        simp only [chkE] at h
        split at h
        · simp only [Bool.and_eq_true, decide_eq_true_eq] at h
          obtain ⟨⟨h1, h2⟩, h3⟩ := h
          subst h1
          obtain ⟨r, r1, r2⟩ := semB_ok (X := X) (cl := cl) o
          exact cpe_bin r1 r2 (go h2) (go h3)
        · cases h
      | neg a =>
        simp only [chkE] at h
        split at h
        · exact cpe_un un_neg lk_neg (go h)
        · cases h
      | cmp o a b =>
        simp only [chkE] at h
        split at h
        · simp only [Bool.and_eq_true, decide_eq_true_eq] at h
          obtain ⟨⟨⟨h1, h2⟩, h3⟩, h4⟩ := h
          subst h1
          obtain ⟨r, r1, r2⟩ := semC_ok (cl := cl) (by rw [F.clP, ok.P_]) (by rw [F.clw, ok.w_]) F.lv ok.room o
          exact cpe_cmp r1 r2 (go h3) (go h4) (notSet_mark h2)
        · cases h
      | chain o o' a b c =>
        simp only [chkE] at h
        split at h
        · simp only [Bool.and_eq_true, decide_eq_true_eq] at h
          obtain ⟨⟨⟨⟨⟨h1, h1'⟩, h2⟩, h3⟩, h4⟩, h5⟩ := h
          subst h1; subst h1'
          obtain ⟨r, r1, r2⟩ := semC_ok (cl := cl) (by rw [F.clP, ok.P_]) (by rw [F.clw, ok.w_]) F.lv ok.room o
          obtain ⟨r', r1', r2'⟩ := semC_ok (cl := cl) (by rw [F.clP, ok.P_]) (by rw [F.clw, ok.w_]) F.lv ok.room o'
          exact cpe_chain r1 r1' r2 r2' (go h3) (go h4) (go h5) (notSet_mark h2)
        · cases h
      | and a b =>
        simp only [chkE] at h
        split at h
        · exact snd_boolE_and ok tk (fun e c h => ihE e c h) h
        · cases h
      | or a b =>
        simp only [chkE] at h
        split at h
        · exact snd_boolE_or ok tk (fun e c h => ihE e c h) h
        · cases h
      | not a =>
        simp only [chkE] at h
        split at h
        · exact cpe_not (go h)
        · cases h
      | ite t a b =>
        simp only [chkE] at h
        split at h
        · simp only [Bool.and_eq_true] at h
          obtain ⟨⟨h1, h2⟩, h3⟩ := h
          exact cpe_if (goT h1) (go h2) (go h3)
        · cases h
      | tup es =>
        simp only [chkE] at h
        split at h
        · exact cpe_tup (snd_args ok tk ihE h).1
        · cases h
      | lst es =>
        simp only [chkE] at h
        split at h
        · exact cpe_lst (snd_args ok tk ihE h).1
        · cases h
      | dic ks vs =>
        simp only [chkE] at h
        split at h
        · simp only [Bool.and_eq_true, decide_eq_true_eq, Bool.not_eq_true'] at h
          obtain ⟨⟨⟨h1, h2⟩, h3⟩, h4⟩ := h
          exact cpe_dic ok tk ihE h1 (fun z => by rw [z] at h2; cases h2) h3 h4
        · cases h
      | idx a b =>
        simp only [chkE] at h
        split at h
        · simp only [Bool.and_eq_true] at h
          obtain ⟨⟨h1, h2⟩, h3⟩ := h
          exact cpe_ix hu (go h1) (go h2) h3
        · cases h
      | idxK a b =>
        simp only [chkE] at h
        split at h
        · simp only [Bool.and_eq_true] at h
          obtain ⟨⟨h1, h2⟩, h3⟩ := h
          exact cpe_ixK (by rw [F.clP, ok.P_]) (by rw [F.clw, ok.w_]) (by have := ok.room.un; have := F.lv; omega) (go h1) (go h2) h3
        · cases h
      | rev a =>
        simp only [chkE] at h
        split at h
        · exact cpe_rev (go h)
        · cases h
      | dtk0 =>
        simp only [chkE] at h
        split at h
        · exact cpe_dtk0 (by rw [F.clP, ok.P_]) (by rw [F.clw, ok.w_])
        · cases h
      | dtk1 a b =>
        simp only [chkE] at h
        split at h
        · simp only [Bool.and_eq_true] at h
          exact cpe_dtk1 (by rw [F.clP, ok.P_]) (by rw [F.clw, ok.w_]) (by have := ok.room.un; have := F.lv; omega) (go h.1) (go h.2)
        · cases h
      | nev => exact cpe_nev
      | slice a lo hi =>
        simp only [chkE] at h
        split at h
        · simp only [Bool.and_eq_true] at h
          obtain ⟨⟨h1, h2⟩, h3⟩ := h
          exact cpe_slice (go h1) (snd_o ok tk ihE h2) (snd_o ok tk ihE h3)
        · cases h
      | call f np m k g es ks =>
        simp only [chkE] at h
        split at h
        · simp only [Bool.and_eq_true, decide_eq_true_eq] at h
          obtain ⟨⟨⟨⟨h1, h2⟩, h3⟩, h4⟩, h5⟩ := h
          obtain ⟨g1, g2⟩ := glN_ok ok.sc_ h1
          obtain ⟨kn, e1, e2, e3⟩ := kshape h3
          obtain ⟨a, m1, m2, fd, ps, np', F1, F2⟩ := F.fn _ _ h2
          obtain ⟨rfl, B⟩ := F2 _ _ _ _ e3
          obtain ⟨A, A1, A2, A3⟩ := snd_args ok tk ihE h4
          obtain ⟨rfl, rfl, rfl, rfl, rfl⟩ := (⟨ok.P_, ok.w_, ok.K_, ok.mg_, ok.base_⟩ : X.prog = P ∧ X.w = w ∧ X.K = K ∧ X.mg = mg ∧ X.base = base)
          subst e2
          exact cpe_call F1 ok.room ok.gd g1 m1 m2 B tk A1 e1 A (snd_kws ok tk ihE h5) A3 g2
        · cases h
      | make c f np m k g es ks =>
        simp only [chkE] at h
        split at h
        · simp only [Bool.and_eq_true, decide_eq_true_eq] at h
          obtain ⟨⟨⟨⟨⟨h1, h2⟩, h2'⟩, h3⟩, h4⟩, h5⟩ := h
          obtain ⟨g1, g2⟩ := glN_ok ok.sc_ h1
          obtain ⟨kn, e1, e2, e3⟩ := kshape h3
          obtain ⟨Ca, c1, c2⟩ := F.cls _ _ h2
          obtain ⟨Ca', a, c3, M, fd, ps, np', F1, F2⟩ := F.init _ _ h2'
          rw [c1] at c3; cases c3
          obtain ⟨rfl, B⟩ := F2 _ _ _ _ e3
          obtain ⟨A, A1, A2, A3⟩ := snd_args ok tk ihE h4
          obtain ⟨rfl, rfl, rfl, rfl, rfl⟩ := (⟨ok.P_, ok.w_, ok.K_, ok.mg_, ok.base_⟩ : X.prog = P ∧ X.w = w ∧ X.K = K ∧ X.mg = mg ∧ X.base = base)
          subst e2
          rcases F1 with F1 | ⟨k1, F1, hk⟩
          · exact cpe_make (k := 0) c1 M (.inl F1) ok.gd g1 c2 B tk A1 e1 A (snd_kws ok tk ihE h5) A3 g2
          · exact cpe_make (k := k1) c1 M (.inr ⟨F1, ok.room.mono hk⟩) ok.gd g1 c2 B tk A1 e1 A (snd_kws ok tk ihE h5) A3 g2
        · cases h
      | meth c nm f np m k g o es ks =>
        simp only [chkE] at h
        split at h
        · simp only [Bool.and_eq_true, decide_eq_true_eq] at h
          obtain ⟨⟨⟨⟨⟨⟨⟨⟨hl, hf⟩, h1⟩, h2⟩, h3⟩, h4⟩, h5⟩, h6⟩, h7⟩ := h
          subst h1
          obtain ⟨kn, e1, e2, e3⟩ := kshape h3
          obtain ⟨Ca, a, c1, c2, c3, fd, ps, np', F1, F2⟩ := F.mth _ _ _ h2
          obtain ⟨rfl, B⟩ := F2 _ _ _ _ e3
          obtain ⟨A, A1, A2, A3⟩ := snd_args ok tk ihE h5
          obtain ⟨rfl, rfl, rfl, rfl, rfl⟩ := (⟨ok.P_, ok.w_, ok.K_, ok.mg_, ok.base_⟩ : X.prog = P ∧ X.w = w ∧ X.K = K ∧ X.mg = mg ∧ X.base = base)
          subst e2
          exact cpe_meth c1 (go h4) c2 c3 F1 ok.room ok.gd B tk A1 e1 A (snd_kws ok tk ihE h6) A3 (meth_tree h7 A1 e1 hf hl)
        · cases h
      | isi u a =>
        simp only [chkE] at h
        split at h
        · simp only [Bool.and_eq_true, decide_eq_true_eq] at h
          obtain ⟨⟨⟨⟨⟨h1, h2⟩, h3⟩, h4⟩, h5⟩, h6⟩ := h
          subst h1
          obtain ⟨g1, g2⟩ := glN_ok ok.sc_ h2
          have hm := F.blt _ h3
          rw [← ok.mg_] at hm
          unfold isiC at h6
          split at h6
          · rename_i x' p'
            simp only [Bool.and_eq_true] at h6
            obtain ⟨⟨k1, k2⟩, k3⟩ := h6
            obtain ⟨g3, g4⟩ := glN_ok ok.sc_ k1
            obtain ⟨rfl, rfl, rfl, rfl, rfl⟩ := (⟨ok.P_, ok.w_, ok.K_, ok.mg_, ok.base_⟩ : X.prog = P ∧ X.w = w ∧ X.K = K ∧ X.mg = mg ∧ X.base = base)
            split at k3
            · rename_i nm
              simp only [Bool.and_eq_true, decide_eq_true_eq, Bool.not_eq_true', decide_eq_false_iff_not] at k3
              obtain ⟨⟨l1, l2⟩, l3⟩ := k3
              exact cpe_isi (vc := .ty nm) F.kit (fun c Ca b z1 z2 => F.kitc c _ b Ca z1 z2) (go h4) (pe_bltn g3 (F.blt _ l1) l2 rfl l3 g4) (fun w' hw => by cases hw; exact .ty nm) g1 hm h5 k2
            · rename_i kc
              have l1 := of_decide_eq_true k3
              obtain ⟨Ca, c1, c2⟩ := F.cls _ _ l1
              exact cpe_isi (vc := .ref Ca) F.kit (fun c Ca b z1 z2 => F.kitc c _ b Ca z1 z2) (go h4) (pe_glob g3 c2 rfl g4) (fun w' hw => by
                have hw' : (cl kc).map Value.ref = some w' := hw
                rw [c1] at hw'
                cases hw'
                exact .own Ca) g1 hm h5 k2
          · cases h6
        · cases h
      | bi b es =>
        simp only [chkE] at h
        split at h
        · rename_i x0 p0 xs pos0
          simp only [Bool.and_eq_true, decide_eq_true_eq] at h
          obtain ⟨⟨⟨⟨h1, h2⟩, h3⟩, h4⟩, h5⟩ := h
          subst h1
          obtain ⟨g1, g2⟩ := glN_ok ok.sc_ h2
          have hm := F.blt _ h3
          rw [← ok.mg_] at hm
          obtain ⟨A, A1, A2, A3⟩ := snd_args ok tk ihE h5
          obtain ⟨r, hr, l⟩ := semBI_ok (X := X) (cl := cl) ok.calm ok.gd F.lv ok.room b
          have hn : biN b ≠ ("__name__" : Str) := by cases b <;> decide +kernel
          cases xs with
          | nil => cases b <;> simp [biA] at h4
          | cons x xs =>
            rw [List.all_cons, Bool.and_eq_true] at A1
            rcases hr with ⟨hc, hv⟩ | ⟨hc, hv⟩
            · exact cpe_callB hc l g1 hm hv A hn g2 (star_of A1.1) (star_any A1.2)
            · exact cpe_callTy hc l g1 hm hv A hn g2 (star_of A1.1) (star_any A1.2)
        · cases h
      | eqO c f np g ne a b =>
        simp only [chkE] at h
        split at h
        · simp only [Bool.and_eq_true, decide_eq_true_eq] at h
          obtain ⟨⟨⟨⟨⟨⟨h1, h2⟩, h3⟩, h4⟩, h5⟩, h6⟩, h7⟩ := h
          obtain ⟨kn, e1, e2, e3⟩ := kshape h4
          cases e1
          obtain ⟨Ca, fa, c1, O, fd, ps, np', k1, F1, hk, F2⟩ := F.own _ _ h3
          obtain ⟨rfl, B⟩ := F2 _ _ _ _ e3
          obtain ⟨rfl, rfl, rfl, rfl, rfl⟩ := (⟨ok.P_, ok.w_, ok.K_, ok.mg_, ok.base_⟩ : X.prog = P ∧ X.w = w ∧ X.K = K ∧ X.mg = mg ∧ X.base = base)
          subst h1
          cases ne with
          | true => exact cpe_neO c1 O.1 F1 (ok.room.mono hk) ok.gd B h5 (go h6) (go h7) (notSet_mark h2)
          | false => exact cpe_eqO c1 O.1 F1 (ok.room.mono hk) ok.gd B h5 (go h6) (go h7) (notSet_mark h2)
        · cases h
      | eqX c f np g ne a b =>
        simp only [chkE] at h
        split at h
        · simp only [Bool.and_eq_true, decide_eq_true_eq] at h
          obtain ⟨⟨⟨⟨⟨⟨h1, h2⟩, h3⟩, h4⟩, h5⟩, h6⟩, h7⟩ := h
          obtain ⟨kn, e1, e2, e3⟩ := kshape h4
          cases e1
          obtain ⟨Ca, fa, c1, O, fd, ps, np', k1, F1, hk, F2⟩ := F.own _ _ h3
          obtain ⟨rfl, B⟩ := F2 _ _ _ _ e3
          obtain ⟨rfl, rfl, rfl, rfl, rfl⟩ := (⟨ok.P_, ok.w_, ok.K_, ok.mg_, ok.base_⟩ : X.prog = P ∧ X.w = w ∧ X.K = K ∧ X.mg = mg ∧ X.base = base)
          subst h1
          cases ne with
          | true => exact cpe_neX c1 O.1 O.2 F1 (ok.room.mono hk) ok.gd B h5 (go h6) (go h7) (notSet_mark h2)
          | false => exact cpe_eqX c1 O.1 O.2 F1 (ok.room.mono hk) ok.gd B h5 (go h6) (go h7) (notSet_mark h2)
        · cases h
      | ninO c f np g a b =>
        simp only [chkE] at h
        split at h
        · simp only [Bool.and_eq_true, decide_eq_true_eq] at h
          obtain ⟨⟨⟨⟨⟨⟨h1, h2⟩, h3⟩, h4⟩, h5⟩, h6⟩, h7⟩ := h
          obtain ⟨kn, e1, e2, e3⟩ := kshape h4
          cases e1
          obtain ⟨Ca, fa, c1, O, fd, ps, np', k1, F1, hk, F2⟩ := F.own _ _ h3
          obtain ⟨rfl, B⟩ := F2 _ _ _ _ e3
          obtain ⟨rfl, rfl, rfl, rfl, rfl⟩ := (⟨ok.P_, ok.w_, ok.K_, ok.mg_, ok.base_⟩ : X.prog = P ∧ X.w = w ∧ X.K = K ∧ X.mg = mg ∧ X.base = base)
          subst h1
          exact cpe_notInO c1 O.1 F1 (ok.room.mono hk) ok.gd B h5 (go h6) (go h7) (notSet_mark h2)
        · cases h
      | orO c f np g a b =>
        simp only [chkE] at h
        split at h
        · simp only [Bool.and_eq_true, decide_eq_true_eq] at h
          obtain ⟨⟨⟨⟨h3, h4⟩, h5⟩, h6⟩, h7⟩ := h
          obtain ⟨kn, e1, e2, e3⟩ := kshape h4
          cases e1
          obtain ⟨Ca, fa, c1, O, fd, ps, np', F1, F2⟩ := F.ownB _ _ h3
          obtain ⟨rfl, B⟩ := F2 _ _ _ _ e3
          obtain ⟨rfl, rfl, rfl, rfl, rfl⟩ := (⟨ok.P_, ok.w_, ok.K_, ok.mg_, ok.base_⟩ : X.prog = P ∧ X.w = w ∧ X.K = K ∧ X.mg = mg ∧ X.base = base)
          exact cpe_orO c1 O.mt O.sf F1 ok.room ok.gd B tk (go h6) (go h7)
        · cases h
      | tupS a b =>
        simp only [chkE] at h
        split at h
        · simp only [Bool.and_eq_true] at h
          obtain ⟨⟨h1, h2⟩, h3⟩ := h
          exact cpe_tupS (go h2) (go h3) (star_of h1)
        · cases h
      | lenO c f np g a =>
        simp only [chkE] at h
        split at h
        · simp only [Bool.and_eq_true, decide_eq_true_eq] at h
          obtain ⟨⟨⟨⟨⟨⟨⟨h1, h2⟩, h3⟩, h4⟩, h5⟩, h6⟩, h7⟩, h8⟩ := h
          subst h1
          obtain ⟨g1, g2⟩ := glN_ok ok.sc_ h2
          have hm := F.blt _ h3
          rw [← ok.mg_] at hm
          obtain ⟨kn, e1, e2, e3⟩ := kshape h5
          cases e1
          obtain ⟨Ca, fa, c1, O, fd, ps, np', k1, F1, hk, F2⟩ := F.ownL _ _ h4
          obtain ⟨rfl, B⟩ := F2 _ _ _ _ e3
          obtain ⟨rfl, rfl, rfl, rfl, rfl⟩ := (⟨ok.P_, ok.w_, ok.K_, ok.mg_, ok.base_⟩ : X.prog = P ∧ X.w = w ∧ X.K = K ∧ X.mg = mg ∧ X.base = base)
          exact cpe_lenO c1 O F1 (ok.room.mono hk) ok.gd B h6 g1 hm (cpa_cons (go h8) cpa_nil (star_of h7)) h7
        · cases h
      | lenN a =>
        simp only [chkE] at h
        split at h
        · simp only [Bool.and_eq_true, decide_eq_true_eq] at h
          obtain ⟨⟨⟨⟨⟨⟨⟨h1, h2⟩, h3⟩, h4⟩, h5⟩, h6⟩, h7⟩, h8⟩ := h
          subst h1
          subst h4
          obtain ⟨g1, g2⟩ := glN_ok ok.sc_ h2
          obtain ⟨g3, g4⟩ := glN_ok ok.sc_ h5
          have hm := F.blt _ h3
          have hm2 := F.blt _ h6
          rw [← ok.mg_] at hm hm2
          exact cpe_lenN ok.calm g1 hm g3 hm2 (go h8) h7
        · cases h
      | getW x tab a b =>
        simp only [chkE] at h
        split at h
        · simp only [Bool.and_eq_true, decide_eq_true_eq] at h
          obtain ⟨⟨⟨⟨⟨⟨⟨⟨h1, h2⟩, h3⟩, h4⟩, h5⟩, h6⟩, h7⟩, h8⟩, h9⟩ := h
          subst h1
          subst h2
          obtain ⟨g1, g2⟩ := glN_ok ok.sc_ h3
          obtain ⟨p, m1, m2, m3⟩ := F.gdc _ _ h4
          obtain ⟨rfl, rfl, rfl, rfl, rfl⟩ := (⟨ok.P_, ok.w_, ok.K_, ok.mg_, ok.base_⟩ : X.prog = P ∧ X.w = w ∧ X.K = K ∧ X.mg = mg ∧ X.base = base)
          exact cpe_getW g1 m1 m2 m3 (go h8) (go h9) g2 h5 h6 h7
        · cases h
      | srt a =>
        simp only [chkE] at h
        split at h
        · simp only [Bool.and_eq_true, decide_eq_true_eq] at h
          obtain ⟨⟨⟨⟨⟨⟨⟨h1, h2⟩, h3⟩, h4⟩, h5⟩, h6⟩, h7⟩, h8⟩ := h
          subst h1
          subst h4
          obtain ⟨g1, g2⟩ := glN_ok ok.sc_ h2
          obtain ⟨g3, g4⟩ := glN_ok ok.sc_ h5
          have hm := F.blt _ h3
          have hm2 := F.blt _ h6
          rw [← ok.mg_] at hm hm2
          exact cpe_srtA ok.calm g1 hm g3 hm2 (go h8) (star_of h7) (star_of rfl)
        · cases h
      | lzip a b =>
        simp only [chkE] at h
        split at h
        · simp only [Bool.and_eq_true, decide_eq_true_eq] at h
          obtain ⟨⟨⟨⟨⟨⟨⟨⟨⟨h1, h2⟩, h3⟩, h4⟩, h5⟩, h6⟩, h7⟩, h8⟩, h9⟩, h10⟩ := h
          subst h1
          subst h4
          obtain ⟨g1, g2⟩ := glN_ok ok.sc_ h2
          obtain ⟨g3, g4⟩ := glN_ok ok.sc_ h5
          have hm := F.blt _ h3
          have hm2 := F.blt _ h6
          rw [← ok.mg_] at hm hm2
          exact cpe_lzip ok.calm g1 hm g3 hm2 (cpa_cons (go h9) (cpa_cons (go h10) cpa_nil (star_of h8)) (star_of h7)) h7 h8
        · cases h
      | mt m o es =>
        simp only [chkE] at h
        split at h
        · simp only [Bool.and_eq_true, decide_eq_true_eq] at h
          obtain ⟨⟨⟨⟨⟨h1, h2⟩, h3⟩, h4⟩, h5⟩, h6⟩ := h
          subst h1
          obtain ⟨A, A1, A2, A3⟩ := snd_args ok tk ihE h4
          have hl : ∀ {j : Nat}, miA m j = true → j < 30 := fun {j} z => by
            cases m <;> (simp only [miA, beq_iff_eq] at z; omega)
          have hl' := hl h2
          cases m with
          | append => exact cpe_mt PySem.F.plainAttrs_list PySem.F.slot_list_append PySem.F.type_list_append mt_append lk_append lkTy_lst (go h3) A A3 A1 hl' h5 h6
          | extend => exact cpe_mt PySem.F.plainAttrs_list PySem.F.slot_list_extend PySem.F.type_list_extend (MtR.or mt_extend mt_extendT) lk_extendA lkTy_lst (go h3) A A3 A1 hl' h5 h6
          | pop => exact cpe_mt PySem.F.plainAttrs_list PySem.F.slot_list_pop PySem.F.type_list_pop mt_pop lk_pop lkTy_lst (go h3) A A3 A1 hl' h5 h6
          | popAt => exact cpe_mt PySem.F.plainAttrs_list PySem.F.slot_list_pop PySem.F.type_list_pop mt_popAt lk_popAt lkTy_lst (go h3) A A3 A1 hl' h5 h6
          | get2 => exact cpe_mt PySem.F.plainAttrs_dict PySem.F.slot_dict_get PySem.F.type_dict_get (mt_get2 (by have := ok.room.units; omega)) lk_get2 lkTy_dic (go h3) A A3 A1 hl' h5 h6
          | join => exact cpe_mt PySem.F.plainAttrs_str PySem.F.slot_str_join PySem.F.type_str_join mt_join lk_join lkTy_str (go h3) A A3 A1 hl' h5 h6
        · cases h
      | attr cs f o =>
        simp only [chkE] at h
        split at h
        · simp only [Bool.and_eq_true, decide_eq_true_eq, List.all_eq_true] at h
          obtain ⟨⟨⟨h1, h2⟩, h3⟩, h4⟩ := h
          subst h1
          exact cpe_attr (fun c Ca hc hcl => by rw [ok.K_]; exact F.attr c _ Ca (h2 c hc) hcl) (go h3) h4
        · cases h
      | lc c T' vs k it ifs =>
        simp only [chkE] at h
        split at h
        · simp only [Bool.and_eq_true, decide_eq_true_eq] at h
          obtain ⟨⟨⟨⟨⟨⟨⟨⟨h1, h2⟩, h3⟩, h4⟩, h5⟩, h6⟩, h7⟩, h8⟩, h9⟩ := h
          subst h1
          rename_i elt tg iter ifs' scope pos
          obtain ⟨I1, I2⟩ := snd_it (tg := tg) F ok tk ihE h6
          have hk : scope.kind = .function := by
            unfold blkC at h2
            simp only [Bool.and_eq_true] at h2
            have := h2.1.1.1
            split at this
            · assumption
            · cases this
          have ev : ((tgNs tg).zip T'.slots).map (·.2) = T'.slots := by
            rw [List.map_snd_zip]
            omega
          have q := cpe_lc (X := X) (cl := cl) (H0 := H0) (C0 := C0) (pos := pos) (own := (tgNs tg).zip T'.slots) (T := T') (scope := scope) ok.calm (by rw [ok.N_]; exact ok.nd) I1 (by rw [ok.N_, ok.sc_]; exact blkOk_by h2) (by rw [ev]; exact fun i hi => hi)
            (fun s H C cs fp => by rw [ok.K_]; exact blk_tg ok h5) (fun s H C cs fp => snd_ifs (blk_ok ok hk) takes_bot (fun e c => (chk_sound F fuel (relS scope sc) e c).2) h7)
            (fun s H C cs fp => (chk_sound F fuel (relS scope sc) _ _).1 h8 _ _ H0 C0 _ (blk_ok ok hk) takes_bot) (notSet_fold h9)
          rw [ev] at q
          rw [h3]
          exact q
        · cases h
    · have go : ∀ {e c}, chkE T N fuel sc e c = true → CPE X cl H0 C0 e (rdE G ex c) := fun h => ihE _ _ h top X H0 C0 ex ok tk
      have goT : ∀ {e c}, chkT T N fuel sc e c = true → CPT X cl H0 C0 e (rdT G ex c) := fun h => ihT _ _ h top X H0 C0 ex ok tk
      cases c with
      | and a b =>
        simp only [chkT] at h
        split at h
        · exact (snd_boolT_and ok tk (fun e c h => ihT e c h) h).pt
        · cases h
      | or a b =>
        simp only [chkT] at h
        split at h
        · exact (snd_boolT_or ok tk (fun e c h => ihT e c h) h).pt
        · cases h
      | not a =>
        simp only [chkT] at h
        split at h
        · exact cpt_not (goT h)
        · cases h
      | cmp o a b =>
        simp only [chkT] at h
        split at h
        · simp only [Bool.and_eq_true, decide_eq_true_eq] at h
          obtain ⟨⟨⟨h1, h2⟩, h3⟩, h4⟩ := h
          subst h1
          obtain ⟨r, r1, r2⟩ := semC_ok (cl := cl) (by rw [F.clP, ok.P_]) (by rw [F.clw, ok.w_]) F.lv ok.room o
          exact cpt_cmp r1 r2 (go h3) (go h4) (notSet_mark h2)
        · cases h
      | chain o o' a b c =>
        simp only [chkT] at h
        split at h
        · simp only [Bool.and_eq_true, decide_eq_true_eq] at h
          obtain ⟨⟨⟨⟨⟨h1, h1'⟩, h2⟩, h3⟩, h4⟩, h5⟩ := h
          subst h1; subst h1'
          obtain ⟨r, r1, r2⟩ := semC_ok (cl := cl) (by rw [F.clP, ok.P_]) (by rw [F.clw, ok.w_]) F.lv ok.room o
          obtain ⟨r', r1', r2'⟩ := semC_ok (cl := cl) (by rw [F.clP, ok.P_]) (by rw [F.clw, ok.w_]) F.lv ok.room o'
          exact cpt_chain r1 r1' r2 r2' (go h3) (go h4) (go h5) (notSet_mark h2)
        · cases h
      | eqO c f np g ne a b =>
        simp only [chkT] at h
        split at h
        · simp only [Bool.and_eq_true, decide_eq_true_eq] at h
          obtain ⟨⟨⟨⟨⟨⟨h1, h2⟩, h3⟩, h4⟩, h5⟩, h6⟩, h7⟩ := h
          obtain ⟨kn, e1, e2, e3⟩ := kshape h4
          cases e1
          obtain ⟨Ca, fa, c1, O, fd, ps, np', k1, F1, hk, F2⟩ := F.own _ _ h3
          obtain ⟨rfl, B⟩ := F2 _ _ _ _ e3
          obtain ⟨rfl, rfl, rfl, rfl, rfl⟩ := (⟨ok.P_, ok.w_, ok.K_, ok.mg_, ok.base_⟩ : X.prog = P ∧ X.w = w ∧ X.K = K ∧ X.mg = mg ∧ X.base = base)
          subst h1
          cases ne with
          | true => exact cpt_neO c1 O.1 F1 (ok.room.mono hk) ok.gd B h5 (go h6) (go h7) (notSet_mark h2)
          | false => exact cpt_eqO c1 O.1 F1 (ok.room.mono hk) ok.gd B h5 (go h6) (go h7) (notSet_mark h2)
        · cases h
      | eqX c f np g ne a b =>
        simp only [chkT] at h
        split at h
        · simp only [Bool.and_eq_true, decide_eq_true_eq] at h
          obtain ⟨⟨⟨⟨⟨⟨h1, h2⟩, h3⟩, h4⟩, h5⟩, h6⟩, h7⟩ := h
          obtain ⟨kn, e1, e2, e3⟩ := kshape h4
          cases e1
          obtain ⟨Ca, fa, c1, O, fd, ps, np', k1, F1, hk, F2⟩ := F.own _ _ h3
          obtain ⟨rfl, B⟩ := F2 _ _ _ _ e3
          obtain ⟨rfl, rfl, rfl, rfl, rfl⟩ := (⟨ok.P_, ok.w_, ok.K_, ok.mg_, ok.base_⟩ : X.prog = P ∧ X.w = w ∧ X.K = K ∧ X.mg = mg ∧ X.base = base)
          subst h1
          cases ne with
          | true => exact cpt_neX c1 O.1 O.2 F1 (ok.room.mono hk) ok.gd B h5 (go h6) (go h7) (notSet_mark h2)
          | false => exact cpt_eqX c1 O.1 O.2 F1 (ok.room.mono hk) ok.gd B h5 (go h6) (go h7) (notSet_mark h2)
        · cases h
      | ninO c f np g a b =>
        simp only [chkT] at h
        split at h
        · simp only [Bool.and_eq_true, decide_eq_true_eq] at h
          obtain ⟨⟨⟨⟨⟨⟨h1, h2⟩, h3⟩, h4⟩, h5⟩, h6⟩, h7⟩ := h
          obtain ⟨kn, e1, e2, e3⟩ := kshape h4
          cases e1
          obtain ⟨Ca, fa, c1, O, fd, ps, np', k1, F1, hk, F2⟩ := F.own _ _ h3
          obtain ⟨rfl, B⟩ := F2 _ _ _ _ e3
          obtain ⟨rfl, rfl, rfl, rfl, rfl⟩ := (⟨ok.P_, ok.w_, ok.K_, ok.mg_, ok.base_⟩ : X.prog = P ∧ X.w = w ∧ X.K = K ∧ X.mg = mg ∧ X.base = base)
          subst h1
          exact cpt_notInO c1 O.1 F1 (ok.room.mono hk) ok.gd B h5 (go h6) (go h7) (notSet_mark h2)
        · cases h
      | _ =>
        simp only [chkT, Bool.and_eq_true] at h
        exact cpt_val (go h.2) (plain_of h.1)
/-! ### statements -/
def SndS (P : Program) (w : World) (K : PySem.W.Frag) (mg : Str → Option Value) (base : Heap) (cl : ClsT) (G : G3) (n : Nat) (N : List Str) (sc : Scope) (s : Stmt) (c : CS) : Prop :=
  ∀ X H0 C0 ex, XOk P w K mg base n N sc true X → Takes X (WC K cl H0 C0 ex) → CPS X cl H0 C0 s (rdS G ex c)
theorem snd_ss {sc : Scope} {X : Cx} {H0 : Hp} {C0 : CH} {ex : Kxs} {f : Stmt → CS → Bool} (hf : ∀ s c, f s c = true → CPS X cl H0 C0 s (rdS G ex c)) : ∀ {ss : List Stmt} {cs : List CS}, chkSs f ss cs = true → CPSs X cl H0 C0 ss (rdSs G ex cs)
  | [], [], _ => cpss_nil
  | s :: ss, c :: cs, h => by
    simp only [chkSs, Bool.and_eq_true] at h
    exact cpss_cons (hf _ _ h.1) (snd_ss (sc := sc) hf h.2)
  | [], _ :: _, h => by simp [chkSs] at h
  | _ :: _, [], h => by simp [chkSs] at h
theorem top_tg {X : Cx} {sc : Scope} (ok : XOk P w K mg base n N sc true X) {tg : Expr} {T' : CT} (h : tgC N sc tg T' = true) : PG X tg (tgV X.K T') ∧ (assignEach [tg] X.env).map (·.2) = [assign tg X.env] := by
  have one : ∀ x i, nmL N sc x i = true → X.N[i]? = some x ∧ L2.Loc X.env.scope x ∧ (X.fn x = true ∨ X.env.scope.names.lookup x = some .local) := fun x i hx => by
    obtain ⟨h1, h2⟩ := nmL_ok hx
    rw [ok.N_, ok.sc_]
    exact ⟨h1, h2, ok.loc rfl x h2⟩
  have nd : X.N.Nodup := by rw [ok.N_]; exact ok.nd
  cases T' with
  | nm i =>
    unfold tgC at h
    simp only at h
    split at h
    · obtain ⟨a, b, c⟩ := one _ _ h
      exact ⟨pg_name nd a b c, rfl⟩
    · cases h
  | tp is =>
    unfold tgC at h
    simp only at h
    split at h
    · rename_i xs k p
      simp only [Bool.and_eq_true, decide_eq_true_eq, List.all_eq_true] at h
      obtain ⟨hl, ha⟩ := h
      have len : ∀ (es : List Expr) (env : Env), (assignEach es env).length = es.length := fun es env => by
        induction es with
        | nil => rfl
        | cons e es ih => cases e <;> exact congrArg (· + 1) ih
      have names : ∀ e ∈ xs, ∃ x p, e = .Name x p := fun e he => by
        obtain ⟨j, hj, ej⟩ := List.getElem_of_mem he
        have := ha (e, is[j]'(by omega)) (by rw [← ej]; exact List.mem_of_getElem? (i := j) (by rw [List.getElem?_zip_eq_some]; exact ⟨List.getElem?_eq_getElem hj, List.getElem?_eq_getElem (by omega)⟩))
        cases e <;> first | exact ⟨_, _, rfl⟩ | (simp at this)
      have nostar : ∀ (es : List Expr) (env : Env), (∀ e ∈ es, ∃ x p, e = Expr.Name x p) → (assignEach es env).findIdx? (·.1) = none := fun es env => by
        induction es with
        | nil => intro _; rfl
        | cons e es ih =>
          intro hn
          obtain ⟨x, p, rfl⟩ := hn e List.mem_cons_self
          show List.findIdx? (·.1) ((false, _) :: assignEach es env) = none
          rw [List.findIdx?_cons]
          simp [ih fun e he => hn e (List.mem_cons_of_mem _ he)]
      have all := pgs_all (X := X) nd hl fun j e i a b => by
        have := ha (e, i) (List.mem_of_getElem? (i := j) (by rw [List.getElem?_zip_eq_some]; exact ⟨a, b⟩))
        cases e <;> first | (obtain ⟨a1, a2, a3⟩ := one _ _ this; exact ⟨_, _, rfl, a1, a2, a3⟩) | (simp at this)
      exact ⟨pg_tup (X := X) (k := k) (pos := p) (n := is.length) ok.calm all (by rw [len]; exact hl) (nostar _ _ names), rfl⟩
    · cases h
theorem sole_none {tg e : Expr} {l : Nat} {env : Env} (h : notComp e = true) : swapsWithSole [tg] e l env = pure false := swap_none h
theorem swapped_none {tg e : Expr} {env : Env} (h : (match e with | .Tuple .. => false | _ => true) = true) : swappedStores [tg] e env = pure none := by
  unfold swappedStores
  cases e <;> first | (cases h; done) | (cases tg <;> rfl)
theorem filterMap_lt {α β : Type} (f : α → Option β) : ∀ {xs : List α} {x : α}, x ∈ xs → f x = none → (xs.filterMap f).length < xs.length
  | y :: ys, x, hm, hf => by
    have hle := List.length_filterMap_le f ys
    rcases List.mem_cons.mp hm with e | hm
    · subst e
      rw [List.filterMap_cons, hf]
      show (ys.filterMap f).length < ys.length + 1
      omega
    · have := filterMap_lt f hm hf
      rw [List.filterMap_cons]
      cases f y with
      | none => show (ys.filterMap f).length < ys.length + 1; omega
      | some z => show (ys.filterMap f).length + 1 < ys.length + 1; omega
theorem swapped_none2 {xs : List Expr} {k : Nat} {tp : Pos} {e : Expr} {env : Env} (h : (match e with | .Tuple vs _ _ => decide (4 ≤ xs.length) || xs.any (fun z => match z with | .Name y _ => !decide (env.scope.names.lookup y = some .local) | _ => false) || vs.all (foldedForSure 8) | _ => true) = true) : swappedStores [.Tuple xs k tp] e env = pure none := by
  cases e with
  | Tuple es k2 p2 =>
    simp only [Bool.or_eq_true, decide_eq_true_eq, List.any_eq_true] at h
    unfold swappedStores
    simp only
    by_cases c1 : (!(xs.length == 2 || xs.length == 3) || es.length != xs.length || env.blockKind != .function) = true
    · rw [if_pos c1]
    · rw [if_neg c1]
      by_cases c2 : (es.any fun x => match x with | .Starred .. => true | _ => false) = true
      · exact if_pos c2
      · refine (if_neg c2).trans ?_
        rcases h with (h | ⟨z, hz, h⟩) | h
        · exfalso
          apply c1
          have a1 : (xs.length == 2) = false := by simpa using (by omega : xs.length ≠ 2)
          have a2 : (xs.length == 3) = false := by simpa using (by omega : xs.length ≠ 3)
          rw [a1, a2]
          rfl
        · refine if_pos ?_
          rw [Bool.or_eq_true]
          left
          have := filterMap_lt (fun x => match x with
            | .Name id pos => if (env.kindOf id == some NameKind.local && pos.line == (Option.map (fun x => x.pos.line) xs.head?).getD 0) = true then some id else none
            | _ => none) hz (by
              cases z with
              | Name y p =>
                simp only [Bool.not_eq_true', decide_eq_false_iff_not] at h
                have q : (env.kindOf y == some NameKind.local) = false := by
                  cases q : env.kindOf y == some NameKind.local with
                  | false => rfl
                  | true => exact absurd (show env.scope.names.lookup y = some .local from eq_of_beq q) h
                simp [q]
              | _ => cases h)
          exact bne_iff_ne.mpr (Nat.ne_of_lt this)
        · generalize (List.filterMap _ xs) = ns
          by_cases c3 : (ns.length != xs.length || ns.eraseDups.length != ns.length) = true
          · exact if_pos c3
          · exact (if_neg c3).trans (if_pos h)
  | _ => exact swapped_none rfl
theorem swapped_three {env : Env} {x y z : Str} {px py pz pt : Pos} {kt k2 : Nat} {pt2 : Pos} {a b c : Expr} (hk : env.scope.kind = .function) (hx : env.scope.names.lookup x = some .local) (hy : env.scope.names.lookup y = some .local) (hz : env.scope.names.lookup z = some .local) (ha : notStar a = true) (hb : notStar b = true) (hcc : notStar c = true) (hl : (px.line == py.line) = true) (hl3 : (px.line == pz.line) = true) (hne : x ≠ y) (hne2 : x ≠ z) (hne3 : y ≠ z)
    (hf : (foldedForSure 8 a && (foldedForSure 8 b && foldedForSure 8 c)) = false) (hc : (constantsAlone 8 a && (constantsAlone 8 b && constantsAlone 8 c)) = false) : swappedStores [.Tuple [.Name x px, .Name y py, .Name z pz] kt pt] (.Tuple [a, b, c] k2 pt2) env = pure (some [x, y, z]) := by
  have hb' : (env.blockKind != .function) = false := by unfold Env.blockKind; rw [hk]; rfl
  have kx : (env.kindOf x == some .local) = true := by rw [show env.kindOf x = some .local from hx]; rfl
  have ky : (env.kindOf y == some .local) = true := by rw [show env.kindOf y = some .local from hy]; rfl
  have kz : (env.kindOf z == some .local) = true := by rw [show env.kindOf z = some .local from hz]; rfl
  have hxy : (x == y) = false := by simpa using hne
  have hyx : (y == x) = false := by simpa using hne.symm
  have hxz : (x == z) = false := by simpa using hne2
  have hzx : (z == x) = false := by simpa using hne2.symm
  have hyz : (y == z) = false := by simpa using hne3
  have hzy : (z == y) = false := by simpa using hne3.symm
  have hl2 : (py.line == px.line) = true := by
    have := eq_of_beq hl
    rw [this]; simp
  have hl4 : (pz.line == px.line) = true := by
    have := eq_of_beq hl3
    rw [this]; simp
  have hdup : ([x, y, z].eraseDups).length = 3 := by
    simp [List.eraseDups, List.eraseDupsBy, List.eraseDupsBy.loop, hxy, hyx, hxz, hzx, hyz, hzy]
  unfold swappedStores
  simp only [hb', kx, ky, kz, hl2, hl4, List.length_cons, List.length_nil, List.all_cons, List.all_nil, Bool.and_true, hf, hc, List.head?_cons, Option.map_some, Option.getD_some, Expr.pos, List.filterMap_cons, List.filterMap_nil, beq_self_eq_true, Bool.true_and, if_true]
  simp only [hdup, bne_self_eq_false, Bool.false_eq_true, if_false, Bool.or_self, Bool.not_true, beq_self_eq_true]
  simp
  intro hh
  exfalso
  rcases hh with hh | hh | hh
  · cases a <;> first | (cases ha; done) | (cases hh; done)
  · cases b <;> first | (cases hb; done) | (cases hh; done)
  · cases c <;> first | (cases hcc; done) | (cases hh; done)
theorem cps_setT {X : Cx} {H0 : Hp} {C0 : CH} {i : Nat} {x : Str} {e : Expr} {ca : CTE} {pos pos' : Pos} (hN : X.N.Nodup) (hi : X.N[i]? = some x) (hx : L2.Loc X.env.scope x) (he : CPE X cl H0 C0 e ca) (hs : swapsWith e (some (.Name x pos')) pos.line X.env = pure false) (hf : X.fn x = true ∨ X.env.scope.names.lookup x = some .local) :
    CPS X cl H0 C0 (.Assign [.Name x pos'] e pos) (sAsg ca (hT (.nm i))) :=
  (ps_set hN hi hx he hs hf).imp fun D σ H ⟨σc, C, Dc, S, h, hq⟩ => ⟨σc, C, _, S, h, fun d C1 v H1 ⟨σ', e1, h1⟩ rv R1 k1 => by
    cases e1
    exact hq.nx _ _ _ _ h1 ((S.s.keep S.r k1).set rv i) R1 k1⟩
theorem swap_cell {x : Str} {p : Pos} {elt : Expr} {gs : List Comprehension} {scope : Scope} {pos : Pos} {l : Nat} {env : Env} (h : ¬ env.scope.names.lookup x = some .local) : swapsWith (.ListComp elt gs scope pos) (some (.Name x p)) l env = pure false := by
  have e : (env.kindOf x == some .local) = false := by
    cases q : env.kindOf x == some NameKind.local with
    | false => rfl
    | true => exact absurd (show env.scope.names.lookup x = some .local from eq_of_beq q) h
  unfold swapsWith
  simp only [e, Bool.and_false, Bool.false_and]
theorem swapped_two {env : Env} {x y : Str} {px py pt : Pos} {kt k2 : Nat} {pt2 : Pos} {a b : Expr} (hk : env.scope.kind = .function) (hx : env.scope.names.lookup x = some .local) (hy : env.scope.names.lookup y = some .local) (ha : notStar a = true) (hb : notStar b = true) (hl : (px.line == py.line) = true) (hne : x ≠ y)
    (hf : (foldedForSure 8 a && foldedForSure 8 b) = false) (hc : (constantsAlone 8 a && constantsAlone 8 b) = false) : swappedStores [.Tuple [.Name x px, .Name y py] kt pt] (.Tuple [a, b] k2 pt2) env = pure (some [x, y]) := by
  have hb' : (env.blockKind != .function) = false := by unfold Env.blockKind; rw [hk]; rfl
  have kx : (env.kindOf x == some .local) = true := by rw [show env.kindOf x = some .local from hx]; rfl
  have ky : (env.kindOf y == some .local) = true := by rw [show env.kindOf y = some .local from hy]; rfl
  have hst : ([a, b].any fun | .Starred .. => true | _ => false) = false := by
    cases a <;> first | (cases ha; done) | (cases b <;> first | (cases hb; done) | rfl)
  have hxy : (x == y) = false := by simpa using hne
  have hyx : (y == x) = false := by simpa using hne.symm
  have hl2 : (py.line == px.line) = true := by
    have := eq_of_beq hl
    rw [this]; simp
  have hdup : ([x, y].eraseDups).length = 2 := by
    simp [List.eraseDups, List.eraseDupsBy, List.eraseDupsBy.loop, hxy, hyx]
  unfold swappedStores
  simp only [hb', hst, kx, ky, hl2, List.length_cons, List.length_nil, List.all_cons, List.all_nil, Bool.and_true, hf, hc, List.head?_cons, Option.map_some, Option.getD_some, Expr.pos, List.filterMap_cons, List.filterMap_nil, beq_self_eq_true, Bool.true_and, if_true]
  simp only [hdup, bne_self_eq_false, Bool.false_eq_true, if_false, Bool.or_self, Bool.not_true, beq_self_eq_true]
  simp
  intro hh
  exfalso
  rcases hh with hh | hh
  · cases a <;> first | (cases ha; done) | (cases hh; done)
  · cases b <;> first | (cases hb; done) | (cases hh; done)
theorem swapped_none_s {o i e : Expr} {p : Pos} {env : Env} : swappedStores [.Subscript o i p] e env = pure none := by
  unfold swappedStores
  cases e <;> rfl
theorem PSet.or {X : Cx} {r r' : TSet} (h : PSet X r) (h' : PSet X r') : PSet X (fun o i v H Q => r o i v H Q ∨ r' o i v H Q) := fun pins s σ H o i v ov iv u Q I ro ri rv q =>
  q.elim (fun q => h pins s σ H o i v ov iv u Q I ro ri rv q) fun q => h' pins s σ H o i v ov iv u Q I ro ri rv q
theorem LkSet.or {r r' : TSet} {f f' : O3} (h : LkSet K cl r f) (h' : LkSet K cl r' f') : LkSet K cl (fun o i v H Q => r o i v H Q ∨ r' o i v H Q) (fun x y z C Q => f x y z C Q ∨ f' x y z C Q) := fun H C d e z v u w Q Qc rd re rz R q hq =>
  q.elim (fun q => .inl (h H C d e z v u w Q Qc rd re rz R q hq)) fun q => .inr (h' H C d e z v u w Q Qc rd re rz R q hq)
def LkIp (K : PySem.W.Frag) (cl : ClsT) (r : TIp) (o : O2) : Prop := Lk2 K cl r o
theorem cps_aug {X : Cx} {H0 : Hp} {C0 : CH} {i : Nat} {x : Str} {e : Expr} {op : Operator} {r : TIp} {o : O2} {ca : CTE} {pos pos' : Pos} (hN : X.N.Nodup) (hi : X.N[i]? = some x) (hx : L2.Loc X.env.scope x) (he : CPE X cl H0 C0 e ca) (ho : PIp X op r) (l : Lk2 X.K cl r o) (hf : X.fn x = true ∨ X.env.scope.names.lookup x = some .local) :
    CPS X cl H0 C0 (.AugAssign (.Name x pos') op e pos) (sAug i o ca) :=
  (ps_aug hN hi hx he ho hf).imp fun D σ H ⟨σc, C, Dc, S, ⟨d, e1, h⟩, hq⟩ => by
    obtain ⟨v, e2, rv⟩ := S.s.get e1
    exact ⟨v, e2, σc, C, _, S, h, fun z C1 u H1 h1 ru R1 k1 => l H1 C1 d z v u _ _ (rv.keep S.r k1) ru R1 h1 fun w' C2 wv H2 h2 rw' R2 k2 => hq.nx _ _ _ _ h2 ((((S.s.keep S.r k1)).keep R1 k2).set rw' i) R2 (k1.trans k2)⟩
theorem oAug_ok {X : Cx} (o : OpB) (h : o = .add ∨ o = .sub) : ∃ r, PIp X (opN o) r ∧ Lk2 X.K cl r (oAug o) := by
  rcases h with h | h
  · subst h
    refine ⟨fun x y H Q => ipI (fun i j => i + j) x y H Q ∨ (∃ i j, x = .str i ∧ y = .str j ∧ i.length + j.length ≤ sizeLine ∧ Q (.str (i ++ j)) H), fun pins s σ H x y v u Q I rx ry q => q.elim (fun q => ip_add pins s σ H x y v u Q I rx ry q) fun q => iop_add_str pins s σ H x y v u Q I rx ry q, fun H C d e v u Q Qc rd re R h hq => ?_⟩
    cases d with
    | int i =>
      cases e with
      | int j => cases rd; cases re; exact .inl ⟨i, j, rfl, rfl, hq.now h (.int _) R⟩
      | _ => exact h.elim
    | str i =>
      cases e with
      | str j => cases rd; cases re; exact .inr ⟨i, j, rfl, rfl, h.1, hq.now h.2 (.str _) R⟩
      | _ => exact h.elim
    | _ => exact h.elim
  · subst h
    refine ⟨_, ip_sub, fun H C d e v u Q Qc rd re R h hq => ?_⟩
    cases d with
    | int i =>
      cases e with
      | int j => cases rd; cases re; exact ⟨i, j, rfl, rfl, hq.now h.2 (.int _) R⟩
      | _ => exact h.elim
    | _ => exact h.elim
theorem suite_sound {X : Cx} {sc : Scope} {H0 : Hp} {C0 : CH} (nd : N.Nodup) (hN : X.N = N) (hsc : X.env.scope = sc) {s : Stmt} {c : CS} (h : chkSuite N sc s c = true) : CPS X cl H0 C0 s (rdS G (fun _ _ _ => False) c) := by
  unfold chkSuite at h
  split at h
  · simp only [Bool.and_eq_true, decide_eq_true_eq] at h
    obtain ⟨⟨h1, h2⟩, h3⟩ := h
    split at h1
    · obtain ⟨a1, a2, a3, a4⟩ := nmV_ok h1
      exact cps_setT (by rw [hN]; exact nd) (by rw [hN]; exact h2) (.inl (by rw [hsc]; exact h3)) (cpe_var (by rw [hN]; exact a1) (by rw [hsc]; exact a2) a3 a4) (swap_none rfl) (.inr (by rw [hsc]; exact h3))
    · cases h1
  · simp only [Bool.and_eq_true, decide_eq_true_eq] at h
    obtain ⟨⟨h1, h2⟩, h3⟩ := h
    split at h1
    · exact cps_setT (by rw [hN]; exact nd) (by rw [hN]; exact h2) (.inl (by rw [hsc]; exact h3)) cpe_non (swap_none rfl) (.inr (by rw [hsc]; exact h3))
    · rw [eq_of_beq h1]; exact cps_setT (by rw [hN]; exact nd) (by rw [hN]; exact h2) (.inl (by rw [hsc]; exact h3)) cpe_bl (swap_none rfl) (.inr (by rw [hsc]; exact h3))
    · rw [of_decide_eq_true h1]; exact cps_setT (by rw [hN]; exact nd) (by rw [hN]; exact h2) (.inl (by rw [hsc]; exact h3)) cpe_str (swap_none rfl) (.inr (by rw [hsc]; exact h3))
    · cases h1
  · split at h
    · exact cps_ret cpe_non
    · rw [eq_of_beq h]; exact cps_ret cpe_bl
    · rw [of_decide_eq_true h]; exact cps_ret cpe_str
    · cases h
  · exact cps_pass
  · exact cps_cont
  · cases h
theorem chkS_sound (F : Facts T P w K mg base cl G n) : ∀ fuel sc s c, chkS T N fuel sc s c = true → SndS P w K mg base cl G n N sc s c
  | 0, sc, s, c => fun h => by simp [chkS] at h
  | fuel + 1, sc, s, c => fun h X H0 C0 ex ok tk => by
    have go : ∀ {e c}, chkE T N fuel sc e c = true → CPE X cl H0 C0 e (rdE G ex c) := fun h => (chk_sound F fuel sc _ _).1 h true X H0 C0 ex ok tk
    have goT : ∀ {e c}, chkT T N fuel sc e c = true → CPT X cl H0 C0 e (rdT G ex c) := fun h => (chk_sound F fuel sc _ _).2 h true X H0 C0 ex ok tk
    have ih : ∀ s c, chkS T N fuel sc s c = true → CPS X cl H0 C0 s (rdS G ex c) := fun s c h => chkS_sound F fuel sc s c h X H0 C0 ex ok tk
    have nd : X.N.Nodup := by rw [ok.N_]; exact ok.nd
    cases c with
    | pass => simp only [chkS] at h; split at h <;> first | exact cps_pass | cases h
    | brk => simp only [chkS] at h; split at h <;> first | exact cps_break | cases h
    | cont => simp only [chkS] at h; split at h <;> first | exact cps_cont | cases h
    | retN => simp only [chkS] at h; split at h <;> first | exact cps_retN | cases h
    | expr c =>
      simp only [chkS] at h
      split at h
      · simp only [Bool.and_eq_true] at h
        exact cps_expr (go h.1) (swap_none h.2)
      · cases h
    | ret c =>
      simp only [chkS] at h
      split at h
      · exact cps_ret (go h)
      · cases h
    | ifS t a b =>
      simp only [chkS] at h
      split at h
      · simp only [Bool.and_eq_true] at h
        obtain ⟨⟨h1, h2⟩, h3⟩ := h
        exact cps_if (goT h1) (snd_ss (sc := sc) ih h2) (snd_ss (sc := sc) ih h3)
      · cases h
    | asg T' c =>
      cases T' with
      | nm i =>
        simp only [chkS] at h
        split at h
        · rename_i x xp e p
          simp only [Bool.and_eq_true, Bool.or_eq_true] at h
          obtain ⟨⟨h1, h2⟩, h3⟩ := h
          obtain ⟨g1, g2⟩ := nmL_ok h1
          have hx : L2.Loc X.env.scope x := by rw [ok.sc_]; exact g2
          have hf : X.fn x = true ∨ X.env.scope.names.lookup x = some .local := by rw [ok.sc_]; exact ok.loc rfl x g2
          have hi : X.N[i]? = some x := by rw [ok.N_]; exact g1
          rcases h3 with h3 | h3
          · exact cps_setT nd hi hx (go h2) (swap_none h3) hf
          · split at h3
            · rename_i elt g0 scope cp
              by_cases hloc : sc.names.lookup x = some .local
              · rw [hloc] at h3
                simp only [Bool.and_eq_true, Bool.not_eq_true'] at h3
                obtain ⟨l1, l2⟩ := h3
                obtain ⟨tg, iter, ifs', asy⟩ := g0
                cases fuel with
                | zero => simp [chkE] at h2
                | succ fuel =>
                  cases c with
                  | lc c T' vs k it ifs =>
                    simp only [chkE, Bool.and_eq_true, decide_eq_true_eq] at h2
                    obtain ⟨⟨⟨⟨⟨⟨⟨⟨h1, h2⟩, h3⟩, h4⟩, h5⟩, h6⟩, h7⟩, h8⟩, h9⟩ := h2
                    subst h1
                    obtain ⟨I1, I2⟩ := snd_it (tg := tg) F ok tk (fun e c => (chk_sound F fuel sc e c).1) h6
                    have hk : scope.kind = .function := by
                      unfold blkC at h2
                      simp only [Bool.and_eq_true] at h2
                      have := h2.1.1.1
                      split at this
                      · assumption
                      · cases this
                    have ev : ((tgNs tg).zip T'.slots).map (·.2) = T'.slots := by
                      rw [List.map_snd_zip]
                      omega
                    have q := cps_setLc (X := X) (cl := cl) (H0 := H0) (C0 := C0) (pos := cp) (spos := p) (own := (tgNs tg).zip T'.slots) (T := T') (scope := scope) ok.calm nd hi (by rw [ok.sc_]; exact hloc) (sw_true (by rw [ok.sc_]; exact ok.kind) (by rw [ok.sc_]; exact hloc) l1 l2) I1 (by rw [ok.N_, ok.sc_]; exact blkOk_by h2) (by rw [ev]; exact fun i hi => hi)
                      (fun s H C cs fp => by rw [ok.K_]; exact blk_tg ok h5) (fun s H C cs fp => snd_ifs (blk_ok ok hk) takes_bot (fun e c => (chk_sound F fuel (relS scope sc) e c).2) h7)
                      (fun s H C cs fp => (chk_sound F fuel (relS scope sc) _ _).1 h8 _ _ H0 C0 _ (blk_ok ok hk) takes_bot) (notSet_fold h9)
                    rw [ev] at q
                    rw [h3]
                    exact q
                  | _ => simp [chkE, notComp] at h2
              · exact cps_setT nd hi hx (go h2) (swap_cell (by rw [ok.sc_]; exact hloc)) hf
            · cases h3
        · cases h
      | tp is =>
        simp only [chkS] at h
        split at h
        · simp only [Bool.and_eq_true] at h
          obtain ⟨⟨⟨h1, h2⟩, h3⟩, h4⟩ := h
          obtain ⟨g1, g2⟩ := top_tg ok h1
          exact cps_asg (go h2) (cpg_T g1) (sole_none h3) (swapped_none2 (by rw [ok.sc_]; exact h4)) g2
        · cases h
    | par i j a b =>
      simp only [chkS] at h
      split at h
      · simp only [Bool.and_eq_true, decide_eq_true_eq, Bool.not_eq_true'] at h
        obtain ⟨⟨⟨⟨⟨⟨⟨⟨⟨⟨⟨⟨h1, h2⟩, h3⟩, h4⟩, h5⟩, h6⟩, h7⟩, h8⟩, h9⟩, h10⟩, h11⟩, h12⟩, h13⟩ := h
        rw [← ok.N_] at h1 h2
        rw [← ok.sc_] at h4 h5
        exact cps_par ok.calm nd h1 h2 h3 h4 h5 (cpa_cons (go h6) (cpa_cons (go h7) cpa_nil (star_of h9)) (star_of h8)) (swapped_two (by rw [ok.sc_]; exact ok.kind) h4 h5 h8 h9 h10 h13 h11 h12) rfl
      · cases h
    | par3 i j l a b c =>
      simp only [chkS] at h
      split at h
      · simp only [Bool.and_eq_true, decide_eq_true_eq, Bool.not_eq_true'] at h
        obtain ⟨⟨⟨⟨⟨⟨⟨⟨⟨⟨⟨⟨⟨⟨⟨⟨⟨⟨⟨⟨⟨h1, h2⟩, h3⟩, e1⟩, e2⟩, e3⟩, l1⟩, l2⟩, l3⟩, c1⟩, c2⟩, c3⟩, s1⟩, s2⟩, s3⟩, p1⟩, p2⟩, f1⟩, f2⟩, n1⟩, n2⟩, n3⟩ := h
        rw [← ok.N_] at h1 h2 h3
        rw [← ok.sc_] at l1 l2 l3
        exact cps_par3 ok.calm nd h1 h2 h3 e1 e2 e3 l1 l2 l3 (cpa_cons (go c1) (cpa_cons (go c2) (cpa_cons (go c3) cpa_nil (star_of s3)) (star_of s2)) (star_of s1)) (swapped_three (by rw [ok.sc_]; exact ok.kind) l1 l2 l3 s1 s2 s3 p1 p2 n1 n2 n3 f1 f2) rfl
      · cases h
    | setI o i c =>
      simp only [chkS] at h
      split at h
      · rename_i xo yi ps es pp
        simp only [Bool.and_eq_true] at h
        obtain ⟨⟨⟨⟨h1, h2⟩, h3⟩, h4⟩, h5⟩ := h
        exact cps_sub (go h1) (go h2) (go h3) (PSet.or set_list (set_dict (hu_of ok.room))) (LkSet.or lk_setL lk_setD) (fun v => by cases yi <;> first | rfl | (cases h5; done)) (sole_none h4) (swapped_none_s) rfl
      · cases h
    | setK o i c =>
      simp only [chkS] at h
      split at h
      · rename_i xo yi ps es pp
        simp only [Bool.and_eq_true] at h
        obtain ⟨⟨⟨⟨h1, h2⟩, h3⟩, h4⟩, h5⟩ := h
        exact cps_sub (go h1) (go h2) (go h3) (set_dtk (by rw [F.clP, ok.P_]) (by rw [F.clw, ok.w_]) (by have := ok.room.un; have := F.lv; omega)) lk_setK (fun v => by cases yi <;> first | rfl | (cases h5; done)) (sole_none h4) (swapped_none_s) rfl
      · cases h
    | never => exact cps_never
    | setF cs f o c =>
      simp only [chkS] at h
      split at h
      · simp only [Bool.and_eq_true, decide_eq_true_eq, List.all_eq_true] at h
        obtain ⟨⟨⟨⟨h1, h2⟩, h3⟩, h4⟩, h5⟩ := h
        subst h1
        exact cps_fld (fun c Ca hc hcl => by rw [ok.K_]; exact F.attr c _ Ca (h2 c hc) hcl) (go h3) (go h4) (swap_none h5)
      · cases h
    | augF cs f o c =>
      simp only [chkS] at h
      split at h
      · simp only [Bool.and_eq_true, decide_eq_true_eq, List.all_eq_true] at h
        obtain ⟨⟨⟨⟨h1, h2⟩, h3⟩, h4⟩, h5⟩ := h
        subst h1
        subst h2
        exact cps_fldplus (fun c Ca hc hcl => by rw [ok.K_]; exact F.attr c _ Ca (h3 c hc) hcl) (go h4) (go h5)
      · cases h
    | augN i o c =>
      simp only [chkS] at h
      split at h
      · simp only [Bool.and_eq_true, decide_eq_true_eq, Bool.or_eq_true] at h
        obtain ⟨⟨⟨h1, h2⟩, h3⟩, h4⟩ := h
        subst h2
        obtain ⟨g1, g2⟩ := nmL_ok h1
        obtain ⟨r, r1, r2⟩ := oAug_ok (X := X) (cl := cl) o h3
        exact cps_aug nd (by rw [ok.N_]; exact g1) (by rw [ok.sc_]; exact g2) (go h4) r1 r2 (by rw [ok.sc_]; exact ok.loc rfl _ g2)
      · cases h
    | forS T' k it body =>
      simp only [chkS] at h
      split at h
      · simp only [Bool.and_eq_true] at h
        obtain ⟨⟨⟨h1, h2⟩, h3⟩, h4⟩ := h
        obtain ⟨g1, g2⟩ := top_tg ok h1
        exact cps_for ok.po ok.calm (snd_it F ok tk (fun e c => (chk_sound F fuel sc e c).1) h2).1 (cpg_T g1) (snd_ss (sc := sc) ih h4) (notSet_fold h3)
      · cases h
    | whileS t body =>
      simp only [chkS] at h
      split at h
      · simp only [Bool.and_eq_true] at h
        exact cps_while ok.po (goT h.1) (snd_ss (sc := sc) ih h.2)
      · cases h
    | raise c =>
      simp only [chkS] at h
      split at h
      · simp only [Bool.and_eq_true, decide_eq_true_eq] at h
        obtain ⟨⟨h1, h2⟩, h3⟩ := h
        obtain ⟨g1, g2⟩ := glN_ok ok.sc_ h1
        obtain ⟨Ca, c1, c2⟩ := F.cls _ _ h2
        obtain ⟨e1, e2, e3, e4⟩ := F.exc c Ca h3 c1
        rw [← ok.K_] at e1 e2 e3 e4
        rw [← ok.mg_] at c2
        exact cps_raise c1 PySem.F.excBase_ValueError e1 c2 e2 (raises_own e3 e4) g1 g2 ok.calm (by rw [ok.K_]; exact tk)
      · cases h
    | raiseE c e =>
      simp only [chkS] at h
      split at h
      · simp only [Bool.and_eq_true, decide_eq_true_eq] at h
        obtain ⟨⟨⟨⟨h1, h2⟩, h3⟩, h4⟩, h5⟩ := h
        obtain ⟨g1, g2⟩ := glN_ok ok.sc_ h1
        obtain ⟨Ca, c1, c2⟩ := F.cls _ _ h2
        obtain ⟨e1, e2, e3, e4⟩ := F.exc c Ca h3 c1
        rw [← ok.K_] at e1 e2 e3 e4
        rw [← ok.mg_] at c2
        exact cps_raiseE c1 PySem.F.excBase_ValueError e1 c2 e2 (raises_own e3 e4) g1 g2 ok.calm (by rw [ok.K_]; exact tk) (go h5) h4
      · cases h
    | tryS cs body suite =>
      simp only [chkS] at h
      split at h
      · simp only [Bool.and_eq_true] at h
        obtain ⟨⟨⟨h1, h2⟩, h3⟩, h4⟩ := h
        obtain ⟨g1, g2⟩ := glN_ok ok.sc_ h1
        obtain ⟨c, c1, c2⟩ := F.tch _ _ h2
        obtain ⟨f1, f2⟩ := ok.fr rfl
        rw [← ok.mg_] at c1
        refine cps_try (b := fun ex' => rdSs G ex' body) f1 f2 ⟨g1, g2, c1⟩ (by rw [ok.K_]; exact c2) (by rw [ok.K_]; exact tk) (fun pn xe ex' H1 C1 tk' po => ?_) fun a oe pn => ?_
        · have ok' : XOk P w K mg base n N sc true (X.tr pn xe) := ⟨ok.P_, ok.w_, ok.K_, ok.mg_, ok.base_, ok.N_, ok.nd, ok.sc_, ok.kind, ok.calm, ok.room, ok.loc, po, ok.gd, ok.fr⟩
          exact snd_ss (sc := sc) (fun s c h => chkS_sound F fuel sc s c h _ H1 C1 ex' ok' (by rw [← ok.K_]; exact tk')) h3
        · exact snd_ss (X := X.suite a ((a, oe) :: pn)) (sc := sc) (fun s c h => suite_sound (X := X.suite a ((a, oe) :: pn)) ok.nd ok.N_ ok.sc_ h) h4
      · cases h
    | tryK cs i body suite rest t ie => simp [chkS] at h
    | tryA cs i body suite =>
      simp only [chkS] at h
      split at h
      · simp only [Bool.and_eq_true, decide_eq_true_eq] at h
        obtain ⟨⟨⟨⟨⟨h1, h2⟩, h3⟩, h4⟩, h5⟩, h6⟩ := h
        obtain ⟨g1, g2⟩ := glN_ok ok.sc_ h1
        obtain ⟨c, c1, c2⟩ := F.tch _ _ h2
        obtain ⟨f1, f2⟩ := ok.fr rfl
        rw [← ok.mg_] at c1
        refine cps_try_as (b := fun ex' => rdSs G ex' body) (s := fun _ => rdSs G (fun _ _ _ => False) suite) f1 f2 nd (by rw [ok.N_]; exact h3) (by show X.env.scope.names.lookup _ = _; rw [ok.sc_]; exact h4) ⟨g1, g2, c1⟩ (by rw [ok.K_]; exact c2) (by rw [ok.K_]; exact tk) (fun pn xe ex' H1 C1 tk' po => ?_) fun a oe pn _ => ?_
        · have ok' : XOk P w K mg base n N sc true (X.tr pn xe) := ⟨ok.P_, ok.w_, ok.K_, ok.mg_, ok.base_, ok.N_, ok.nd, ok.sc_, ok.kind, ok.calm, ok.room, ok.loc, po, ok.gd, ok.fr⟩
          exact snd_ss (sc := sc) (fun s c h => chkS_sound F fuel sc s c h _ H1 C1 ex' ok' (by rw [← ok.K_]; exact tk')) h5
        · exact snd_ss (X := X.suite a ((a, oe) :: pn)) (sc := sc) (fun s c h => suite_sound (X := X.suite a ((a, oe) :: pn)) ok.nd ok.N_ ok.sc_ h) h6
      · cases h
end
end L3

/-! a def's statements: the last one may be a try whose exception is held behind it -/
namespace L3
open PySem L2
section
variable {P : Program} {w : World} {K : PySem.W.Frag} {mg : Str → Option Value} {base : Heap} {cl : ClsT} {G : G3} {n : Nat} {N : List Str} {T : Tab} {sc : Scope}
theorem XOk.pin {top : Bool} {X : Cx} (ok : XOk P w K mg base n N sc top X) (a : Addr) (oe : Obj) : XOk P w K mg base n N sc top (pinX X a oe) :=
  ⟨ok.P_, ok.w_, ok.K_, ok.mg_, ok.base_, ok.N_, ok.nd, ok.sc_, ok.kind, ok.calm, ok.room, ok.loc, ok.po, ok.gd, ok.fr⟩
theorem takes_pin {X : Cx} {W : WX} (t : Takes X W) (a : Addr) (oe : Obj) : Takes (pinX X a oe) W := fun u s' ⟨a', B, sI, pins, σ, H, cls, d, e, I, r⟩ =>
  t u s' ⟨a', B, sI, pins, σ, H, cls, d, e, unpin (⟨I.ok.mod, I.ok.kind, I.ok.glob, I.ok.blt, I.ok.above, I.ok.inj, I.ok.has, I.ok.cab, I.ok.hd, I.ok.frames, I.ok.stk, I.ok.exf, I.ok.bs, I.ok.bsz, I.ok.noex, I.ok.exfs, I.ok.funs, I.ok.frf⟩ : X.Ok) I, r⟩
theorem cpss_one {X : Cx} {H0 : Hp} {C0 : CH} {s : Stmt} {c : CTS} (h : CPS X cl H0 C0 s c) : CPSs X cl H0 C0 [s] c := pss_one h
theorem cpss_false {X : Cx} {H0 : Hp} {C0 : CH} (ss : List Stmt) : CPSs X cl H0 C0 ss (fun _ _ _ => False) := ⟨fun pins s σ H D I ⟨σc, C, Dc, S, h, hq⟩ => h.elim⟩
theorem lookup_memx : ∀ {ans : List (Nat × Bool)} {c : Nat} {b : Bool}, ans.lookup c = some b → (c, b) ∈ ans
  | (d, e) :: r, c, b, h => by
    rw [List.lookup_cons] at h
    split at h
    · rename_i q
      cases h
      rw [beq_iff_eq.mp q]
      exact List.mem_cons_self
    · exact List.mem_cons_of_mem _ (lookup_memx h)
section
variable (F : Facts T P w K mg base cl G n)
include F
theorem isx_sound {X : Cx} {H0 : Hp} {C0 : CH} {ex : Kxs} (ok : XOk P w K mg base n N sc true X) {a cc : Nat} {oe : Obj} {Ca : Addr} (hcc : cl cc = some Ca) (hx : T.xcl cc = true) (hp : (a, oe) ∈ X.pn) (hz : Zc (.ref Ca) none oe) (hf : ∃ vs, oe.data = .fields vs) {e : Expr} {ans : List (Nat × Bool)} {u : String ⊕ Nat} {j : Nat} (h : chkIsx T N sc e ans u j = true) :
    CPE X cl H0 C0 e (cIsx ans j a cc) := by
  unfold chkIsx at h
  split at h
  · rename_i x p0 m pm z pos0
    simp only [Bool.and_eq_true, decide_eq_true_eq] at h
    obtain ⟨⟨⟨⟨⟨h0, h1⟩, h2⟩, h3⟩, h4⟩, h5⟩ := h
    subst h1
    obtain ⟨g1, g2⟩ := glN_ok ok.sc_ h2
    have hm := F.blt _ h3
    rw [← ok.mg_] at hm
    obtain ⟨n1, n2, n3, n4⟩ := nmV_ok h4
    have he : CPE X cl H0 C0 (.Name m pm) (cVar j) := cpe_var (by rw [ok.N_]; exact n1) (by rw [ok.sc_]; exact n2) n3 n4
    have hE := F.xcl cc Ca hx hcc
    have hkit : ∀ b, ans.lookup cc = some b → ∃ vu, tyVal cl u = some vu ∧ PySem.W.kitOne K (.ref Ca) vu = some b := fun b hb => F.xkit cc u b Ca (of_decide_eq_true (List.all_eq_true.mp h0 (cc, b) (lookup_memx hb))) hcc
    unfold isiC at h5
    split at h5
    · rename_i x' p'
      simp only [Bool.and_eq_true] at h5
      obtain ⟨⟨k1, k2⟩, k3⟩ := h5
      obtain ⟨g3, g4⟩ := glN_ok ok.sc_ k1
      obtain ⟨rfl, rfl, rfl, rfl, rfl⟩ := (⟨ok.P_, ok.w_, ok.K_, ok.mg_, ok.base_⟩ : X.prog = P ∧ X.w = w ∧ X.K = K ∧ X.mg = mg ∧ X.base = base)
      split at k3
      · rename_i nm
        simp only [Bool.and_eq_true, decide_eq_true_eq, Bool.not_eq_true', decide_eq_false_iff_not] at k3
        obtain ⟨⟨l1, l2⟩, l3⟩ := k3
        exact cpe_isx (vc := .ty nm) hkit hp hE hz hf he (pe_bltn g3 (F.blt _ l1) l2 rfl l3 g4) (fun w' hw => by cases hw; exact .ty nm) g1 hm rfl k2
      · rename_i kc
        have l1 := of_decide_eq_true k3
        obtain ⟨Cb, c1, c2⟩ := F.cls _ _ l1
        exact cpe_isx (vc := .ref Cb) hkit hp hE hz hf he (pe_glob g3 c2 rfl g4) (fun w' hw => by
          have hw' : (cl kc).map Value.ref = some w' := hw
          rw [c1] at hw'
          cases hw'
          exact .own Cb) g1 hm rfl k2
    · cases h5
  · cases h
theorem chkIT_sound {X : Cx} {H0 : Hp} {C0 : CH} {ex : Kxs} (ok : XOk P w K mg base n N sc true X) (tk : Takes X (WC K cl H0 C0 ex)) {a cc : Nat} {oe : Obj} {Ca : Addr} (hcc : cl cc = some Ca) (hx : T.xcl cc = true) (hp : (a, oe) ∈ X.pn) (hz : Zc (.ref Ca) none oe) (hf : ∃ vs, oe.data = .fields vs) {fuel : Nat} :
    ∀ (ie : IE) (e : Expr), chkIT T N fuel sc ie e = true → CPT X cl H0 C0 e (rdIT G ex a cc ie) := by
  intro ie
  induction ie with
  | leaf c => exact fun e h => (chk_sound F fuel sc _ _).2 (by simpa [chkIT] using h) true X H0 C0 ex ok tk
  | isx ans u j =>
    intro e h
    have h' : chkIsx T N sc e ans u j = true := by simpa [chkIT] using h
    have q := isx_sound F (H0 := H0) (C0 := C0) (ex := ex) ok hcc hx hp hz hf h'
    refine cpt_val q ?_
    unfold chkIsx at h'
    split at h'
    · exact fun _ => rfl
    · cases h'
  | and2 x y ihx ihy =>
    intro e h
    match e, h with
    | .BoolOp .And [p, q] pos, h =>
      simp only [chkIT, Bool.and_eq_true] at h
      exact (cpw_and (ihx p h.1) (cpw_and1 (ihy q h.2))).pt
  | and3 x y z ihx ihy ihz =>
    intro e h
    match e, h with
    | .BoolOp .And [p, q, r] pos, h =>
      simp only [chkIT, Bool.and_eq_true] at h
      exact (cpw_and (ihx p h.1) (cpw_and (ihy q h.2.1) (cpw_and1 (ihz r h.2.2)))).pt
  | or2 x y ihx ihy =>
    intro e h
    match e, h with
    | .BoolOp .Or [p, q] pos, h =>
      simp only [chkIT, Bool.and_eq_true] at h
      exact (cpw_or (ihx p h.1) (cpw_or1 (ihy q h.2))).pt
  | not x ihx =>
    intro e h
    match e, h with
    | .UnaryOp .Not p pos, h =>
      simp only [chkIT] at h
      exact cpt_not (ihx p h)
  | ite t x y _ _ _ => intro e h; simp [chkIT] at h
theorem chkI_sound {X : Cx} {H0 : Hp} {C0 : CH} {ex : Kxs} (ok : XOk P w K mg base n N sc true X) (tk : Takes X (WC K cl H0 C0 ex)) {a cc : Nat} {oe : Obj} {Ca : Addr} (hcc : cl cc = some Ca) (hx : T.xcl cc = true) (hp : (a, oe) ∈ X.pn) (hz : Zc (.ref Ca) none oe) (hf : ∃ vs, oe.data = .fields vs) {fuel : Nat} :
    ∀ (ie : IE) (e : Expr), chkI T N fuel sc ie e = true → CPE X cl H0 C0 e (rdI G ex a cc ie) := by
  intro ie
  induction ie with
  | leaf c => exact fun e h => (chk_sound F fuel sc _ _).1 (by simpa [chkI] using h) true X H0 C0 ex ok tk
  | isx ans u j => exact fun e h => isx_sound F (H0 := H0) (C0 := C0) (ex := ex) ok hcc hx hp hz hf (by simpa [chkI] using h)
  | and2 x y ihx ihy =>
    intro e h
    match e, h with
    | .BoolOp .And [p, q] pos, h =>
      simp only [chkI, Bool.and_eq_true] at h
      exact cpe_and (ihx p h.1) (cpe_one (ihy q h.2))
  | and3 x y z ihx ihy ihz =>
    intro e h
    match e, h with
    | .BoolOp .And [p, q, r] pos, h =>
      simp only [chkI, Bool.and_eq_true] at h
      exact cpe_and (ihx p h.1) (cpe_and (ihy q h.2.1) (cpe_one (ihz r h.2.2)))
  | or2 x y ihx ihy =>
    intro e h
    match e, h with
    | .BoolOp .Or [p, q] pos, h =>
      simp only [chkI, Bool.and_eq_true] at h
      exact cpe_or (ihx p h.1) (cpe_one (ihy q h.2))
  | not x ihx =>
    intro e h
    match e, h with
    | .UnaryOp .Not p pos, h =>
      simp only [chkI] at h
      exact cpe_not (ihx p h)
  | ite t x y _ ihx ihy =>
    intro e h
    match e, h with
    | .IfExp z p q pos, h =>
      simp only [chkI, Bool.and_eq_true] at h
      exact cpe_if (chkIT_sound F ok tk hcc hx hp hz hf t z h.1) (ihx p h.2.1) (ihy q h.2.2)
theorem chkK_sound {X : Cx} {H0 : Hp} {C0 : CH} {ex : Kxs} (ok : XOk P w K mg base n N sc true X) (tk : Takes X (WC K cl H0 C0 ex)) {fuel : Nat} {s : Stmt} {r : List Stmt} {c : CS} (h : chkK T N fuel sc s r c = true) : CPSs X cl H0 C0 (s :: r) (rdS G ex c) := by
  have nd : X.N.Nodup := by rw [ok.N_]; exact ok.nd
  cases c with
  | tryK cs i body suite rest t ie =>
    simp only [chkK, Bool.and_eq_true] at h
    obtain ⟨⟨h1, h2⟩, h3⟩ := h
    split at h1
    · simp only [Bool.and_eq_true, decide_eq_true_eq] at h1
      obtain ⟨⟨⟨⟨⟨⟨k1, k2⟩, k3⟩, k4⟩, k5⟩, k6⟩, k7⟩ := h1
      split at h3
      · rename_i e0 x0 p0 e2 p2
        simp only [Bool.and_eq_true] at h3
        obtain ⟨g1, g2⟩ := glN_ok ok.sc_ k1
        obtain ⟨c, c1, c2⟩ := F.tch _ _ k2
        obtain ⟨f1, f2⟩ := ok.fr rfl
        rw [← ok.mg_] at c1
        refine cpss_try_keep (b := fun ex' => rdSs G ex' body) (s := rdSs G (fun _ _ _ => False) suite) (r := rdSs G ex rest) (kk := fun a cc => sCaught G ex cs t ie a cc) f1 f2 nd (by rw [ok.N_]; exact k4) (by show X.env.scope.names.lookup _ = _; rw [ok.sc_]; exact k5) ⟨g1, g2, c1⟩ (by rw [ok.K_]; exact c2) (by rw [ok.K_]; exact tk) (fun pn xe ex' H1 C1 tk' po => ?_) (fun a oe pn => ?_) ?_ (fun a oe cc Ca hcc hz hf => ?_)
        · have ok' : XOk P w K mg base n N sc true (X.tr pn xe) := ⟨ok.P_, ok.w_, ok.K_, ok.mg_, ok.base_, ok.N_, ok.nd, ok.sc_, ok.kind, ok.calm, ok.room, ok.loc, po, ok.gd, ok.fr⟩
          exact snd_ss (sc := sc) (fun s c h => chkS_sound F fuel sc s c h _ H1 C1 ex' ok' (by rw [← ok.K_]; exact tk')) k6
        · exact snd_ss (X := X.suite a ((a, oe) :: pn)) (sc := sc) (fun s c h => suite_sound (X := X.suite a ((a, oe) :: pn)) ok.nd ok.N_ ok.sc_ h) k7
        · exact snd_ss (sc := sc) (fun s c h => chkS_sound F fuel sc s c h X H0 C0 ex ok tk) h2
        · have okp := ok.pin a oe
          have tkp := takes_pin tk a oe
          by_cases hin : cc ∈ cs
          · have hx : T.xcl cc = true := List.all_eq_true.mp k3 cc hin
            have ht := (chk_sound F fuel sc _ _).2 h3.1 true (pinX X a oe) H0 C0 ex okp tkp
            have hi := chkI_sound F (H0 := H0) (C0 := C0) (ex := ex) okp tkp hcc hx List.mem_cons_self hz hf ie e2 h3.2
            have q := cpss_cons (cps_if (pos := p0) ht (cpss_false x0) cpss_nil) (cpss_one (cps_ret (pos := p2) hi))
            refine q.imp fun D σ H h => ?_
            have e : sCaught G ex cs t ie a cc = sSeq (sIf (rdT G ex t) (fun _ _ _ => False) sNext) (sRet (rdI G ex a cc ie)) := by
              funext D' σ' C'
              simp only [sCaught, hin, decide_true, if_true]
            rw [e] at h
            exact h
          · refine ⟨fun pins s σ H D I ⟨σc, C, Dc, S, h, hq⟩ => ?_⟩
            simp only [sCaught, hin, decide_false, Bool.false_eq_true, if_false] at h
      · cases h3
    · cases h1
  | _ => simp [chkK] at h
theorem chkTop_sound {X : Cx} {H0 : Hp} {C0 : CH} {ex : Kxs} (ok : XOk P w K mg base n N sc true X) (tk : Takes X (WC K cl H0 C0 ex)) {fuel : Nat} : ∀ {ss : List Stmt} {cs : List CS}, chkTop T N fuel sc ss cs = true → CPSs X cl H0 C0 ss (rdSs G ex cs)
  | [], [], _ => cpss_nil
  | [], _ :: _, h => by simp [chkTop] at h
  | _ :: _, [], h => by simp [chkTop] at h
  | s :: r, c :: cs, h => by
    unfold chkTop at h
    split at h
    · simp only [Bool.and_eq_true, List.isEmpty_iff] at h
      obtain ⟨h1, h2⟩ := h
      subst h1
      have q := chkK_sound F (H0 := H0) (C0 := C0) (ex := ex) ok tk h2
      exact q.imp fun D σ H ⟨σc, C, Dc, S, h, hq⟩ => ⟨σc, C, Dc, S, h, hq⟩
    · simp only [Bool.and_eq_true] at h
      exact cpss_cons (chkS_sound F fuel sc s c h.1 X H0 C0 ex ok tk) (chkTop_sound ok tk h.2)
end
end
end L3

namespace L3
open PySem L2
/-! ### a whole program -/
structure FDef where
  np : Nat
  ns : Nat
  body : List CS
abbrev Prog3 := List (Nat × FDef)
def Prog3.get (p : Prog3) (f : Nat) : Option FDef := (p.find? fun q => q.1 == f).map (·.2)
def startN (n : Nat) (ds : List D) : Env3 := ds.map some ++ List.replicate (n - ds.length) none
/-- what is behind a body: what is made meanwhile may be forgotten -/
def endN (Q : Kv) : EndsC := { nx := fun _ C' => ∃ C1, Sub C1 C' ∧ Q .non C1, rt := fun d C' => ∃ C1, Sub C1 C' ∧ Q d C1 }
def exN (E : Kx) : Kxs := fun y _ C' => ∃ C1, Sub C1 C' ∧ E y C1
/-- the meaning of the defs, with n calls one within another -/
def wpN (p : Prog3) (kit : String ⊕ Nat → String ⊕ Nat → Option Bool) : Nat → Nat → SemF
  | 0, _ => fun _ _ _ _ => False
  | n + 1, f => fun ds C Q E => match p.get f with
    | none => False
    | some d => ds.length = d.np ∧ rdSs ⟨wpN p kit n, match n with | 0 => fun _ _ _ _ _ => False | m + 1 => wpN p kit m, kit⟩ (exN E) d.body (endN Q) (startN d.ns ds) C
def gN (p : Prog3) (kit : String ⊕ Nat → String ⊕ Nat → Option Bool) (n : Nat) : G3 := ⟨wpN p kit n, match n with | 0 => fun _ _ _ _ _ => False | m + 1 => wpN p kit m, kit⟩
/-- a def of the law as it stands in the text, and its clean form -/
structure DefT where
  f : Nat
  name : Str
  qual : Str
  stmt : Stmt
  N : List Str
  ps : List Str
  fuel : Nat
def DefT.ok (T : Tab) (p : Prog3) (d : DefT) : Bool := match p.get d.f with
  | none => false
  | some c => chkTop T d.N d.fuel (defScope d.stmt) (defBody d.stmt) c.body && decide (c.np = d.ps.length) && decide (c.ns = d.N.length) &&
    (match (defScope d.stmt).kind with | .function => true | _ => false) && !(defScope d.stmt).isCoroutine && !(defScope d.stmt).isGenerator && decide d.N.Nodup && decide (d.N.take d.ps.length = d.ps) && (d.ps.all fun x => match (defScope d.stmt).names.lookup x with | some .local => true | some .cell => true | _ => false) && ((defScope d.stmt).names.all fun y => match y.2 with | .free => false | _ => true)
theorem DefT.scope {T : Tab} {p : Prog3} {d : DefT} (h : d.ok T p = true) : FnScope d.N d.ps (defScope d.stmt) := by
  unfold DefT.ok at h
  split at h
  · cases h
  · simp only [Bool.and_eq_true, decide_eq_true_eq, Bool.not_eq_true', List.all_eq_true] at h
    obtain ⟨⟨⟨⟨⟨⟨⟨⟨⟨h1, h2⟩, h3⟩, h4⟩, h5⟩, h6⟩, h7⟩, h8⟩, h9⟩, h10⟩ := h
    refine ⟨?_, h5, h6, h7, h8, fun x hx => ?_, fun y hy z => ?_⟩
    · split at h4 <;> first | assumption | cases h4
    · have := h9 x hx
      split at this <;> first | (left; assumption) | (right; assumption) | cases this
    · have := h10 y hy
      rw [z] at this
      cases this
/-- a def as it stands behind the top -/
structure DefAt (K : PySem.W.Frag) (d : DefT) (a : Addr) (fd : FuncData) : Prop where
  ex : ∃ (oc : Value) (od : Option Addr) (dV kV doc pm : Value) (an : Option Addr) (cdv ct : Value) (osl : Array (Option Value)),
    fd = PySem.W.fnOf d.name d.qual (defArgs d.stmt) (defBody d.stmt) (defScope d.stmt) dV kV doc pm an cdv ct ∧ K.lookup a = some ⟨oc, od, .func fd, osl⟩ ∧ PySem.W.codeIn K cdv d.qual = true
  kp : PySem.W.keepIn K (.ref a) = true
section
variable {T : Tab} {P : Program} {w : World} {K : PySem.W.Frag} {mg : Str → Option Value} {base : Heap} {cl : ClsT} {p : Prog3} {kit : String ⊕ Nat → String ⊕ Nat → Option Bool}
/-- one def: from the facts about what it calls (n calls) to its own promise (n + 1 calls) -/
theorem def_step {n : Nat} {d : DefT} {a : Addr} {fd : FuncData} {c : FDef} (F : Facts T P w K mg base cl (gN p kit n) (n + 10)) (A : DefAt K d a fd) (hc : p.get d.f = some c) (h : d.ok T p = true) : FnOkG P w K mg base (L2.CX P w) (n + 10 + 1) a fd d.ps (spC K cl c.np (wpN p kit (n + 1) d.f)) := by
  have S := DefT.scope h
  obtain ⟨oc, od, dV, kV, doc, pm, an, cdv, ct, osl, rfl, lk, hcd⟩ := A.ex
  have h' := h
  unfold DefT.ok at h'
  rw [hc] at h'
  simp only [Bool.and_eq_true, decide_eq_true_eq] at h'
  obtain ⟨⟨⟨⟨⟨⟨⟨⟨⟨h1, h2⟩, h3⟩, _⟩, _⟩, _⟩, _⟩, _⟩, _⟩, _⟩ := h'
  rw [h2]
  refine fn_ofG lk hcd S (fun vs H Q E ⟨ds, C, Qc, Ec, r, hl, _⟩ => by rw [← r.length, hl]) fun A' outer s H vs Q E hr hgd ⟨ds, C, Qc, Ec, r, hl, R, hs, hq, hx⟩ => ?_
  have ok : XOk P w K mg base (n + 10) d.N (defScope d.stmt) true (cxOf (L2.CX P w) P w K mg base d.N d.qual (defScope d.stmt) a cdv A' outer s H E) := ⟨rfl, rfl, rfl, rfl, rfl, rfl, S.nd, rfl, S.kind, rfl, hr, fun _ _ _ => .inl rfl, passes_of rfl, hgd, fun _ => ⟨rfl, rfl⟩⟩
  have tk : Takes (cxOf (L2.CX P w) P w K mg base d.N d.qual (defScope d.stmt) a cdv A' outer s H E) (WC K cl H C (exN Ec)) :=
    (takes_of (E := E) rfl rfl rfl rfl).imp fun cls d' σ H' ⟨y, σc, C', ⟨C1, s1, q⟩, xr, S'⟩ => hx y C1 cls d' H' q xr (S'.r.sub s1) (S'.f.sub s1)
  have body := chkTop_sound F (sc := defScope d.stmt) (H0 := H) (C0 := C) (ex := exN Ec) ok tk h1
  refine ⟨_, body, startN c.ns ds, C, endN Qc, ⟨?_, R, Keep.refl⟩, ?_, ?_⟩
  · have q := start_rep (N := d.N) r
    unfold start3 at q
    rw [h3]
    exact q
  · have hs' : ds.length = c.np ∧ rdSs (gN p kit n) (exN Ec) c.body (endN Qc) (startN c.ns ds) C := by
      unfold wpN at hs
      simp only [hc] at hs
      exact hs
    exact hs'.2
  · exact ⟨fun σc' C' σ' H' ⟨C1, s1, q⟩ _ R' k => hq _ _ _ _ q .non (R'.sub s1) (k.sub s1), fun d' C' v H' ⟨C1, s1, q⟩ rv R' k => hq _ _ _ _ q rv (R'.sub s1) (k.sub s1), fun _ _ _ _ z => z.elim, fun _ _ _ _ z => z.elim⟩
/-- what is known of the law's names, whatever the defs do -/
structure Names3 (T : Tab) (K : PySem.W.Frag) (mg : Str → Option Value) (cl : ClsT) (p : Prog3) (kit : String ⊕ Nat → String ⊕ Nat → Option Bool) (at_ : Nat → Option (DefT × Addr × FuncData)) : Prop where
  defs : ∀ f d a fd, at_ f = some (d, a, fd) → d.f = f ∧ DefAt K d a fd ∧ d.ok T p = true ∧ ∀ m ks np g, T.shape f m ks = some (np, g) → np = d.ps.length ∧ BindsC K fd d.ps m ks g
  fn : ∀ x f, T.fn x = some f → ∃ d a fd, at_ f = some (d, a, fd) ∧ mg x = some (.ref a)
  cls : ∀ x c, T.cls x = some c → ∃ Ca, cl c = some Ca ∧ mg x = some (.ref Ca)
  init : ∀ c f, T.init c = some f → ∃ Ca d a fd, cl c = some Ca ∧ at_ f = some (d, a, fd) ∧ Mk K Ca a
  own : ∀ c f, T.own c = some f → ∃ Ca d a fd, cl c = some Ca ∧ at_ f = some (d, a, fd) ∧ OwnEX K Ca a
  ownL : ∀ c f, T.ownL c = some f → ∃ Ca d a fd, cl c = some Ca ∧ at_ f = some (d, a, fd) ∧ OwnL K Ca a
  ownB : ∀ c f, T.ownB c = some f → ∃ Ca d a fd, cl c = some Ca ∧ at_ f = some (d, a, fd) ∧ OwnB K Ca a
  xcl : ∀ c Ca, T.xcl c = true → cl c = some Ca → ExcC K Ca
  xkit : ∀ c u b Ca, T.xkit c u = some b → cl c = some Ca → ∃ vu, tyVal cl u = some vu ∧ PySem.W.kitOne K (.ref Ca) vu = some b
  mth : ∀ c m f, T.mth c m = some f → ∃ Ca d a fd, cl c = some Ca ∧ at_ f = some (d, a, fd) ∧ Cls K Ca ∧ Meth K Ca m a
  glb : ∀ x d, T.glb x = some d → ∃ u v, mg x = some u ∧ RelV v u ∧ ∀ H, Rep K H d v
  blt : ∀ x, T.blt x = true → mg x = none
  attr : ∀ c f Ca, T.attr c f = true → cl c = some Ca → Cls K Ca ∧ NoAttr K Ca f
  kit_ : KitOk K cl kit
  kitc : ∀ c u b Ca, kit (.inr c) u = some b → cl c = some Ca → ClsOk K Ca
  exc : ∀ c Ca, T.exc c = true → cl c = some Ca → PySem.W.excIn K Ca [.type "ValueError", .type "Exception", .type "BaseException", .type "object"] "ValueError.__new__" = true ∧ PySem.W.keepIn K (.ref Ca) = true ∧ PySem.W.subIn K (.ref Ca) (.type "BaseException") = some true ∧ PySem.W.typeIn K (.ref Ca) = some (.type "type")
  tch : ∀ x cs, T.tch x cs = true → ∃ c, (mg x = some c ∨ (mg x = none ∧ bootBuiltins x = some c ∧ x ≠ "__name__")) ∧ SubOk K cl c fun i => decide (i ∈ cs)
  gdc : ∀ x tab, T.gdc x = some tab → ∃ p, mg x = some (.ref p) ∧ WDct K cl.w p tab ∧ ∃ es m, K.lookup p = some ⟨.type "dict", none, .dict es m, #[]⟩
theorem none_at {f : Addr} {fd : FuncData} {ps : List Str} {np : Nat} {g k : Nat} (hl : np = ps.length) : FnOkG P w K mg base (L2.CX P w) k f fd ps (spC K cl np (wpN p kit 0 g)) :=
  ⟨fun vs H Q E ⟨ds, C, Qc, Ec, r, h, _⟩ => by rw [← r.length, h, hl], fun A outer s H args us vs Q E _ _ _ _ _ ⟨_, _, _, _, _, _, _, z, _⟩ => z.elim⟩
theorem np_of {d : DefT} {c : FDef} (hc : p.get d.f = some c) (h : d.ok T p = true) : c.np = d.ps.length := by
  unfold DefT.ok at h
  rw [hc] at h
  simp only [Bool.and_eq_true, decide_eq_true_eq] at h
  exact h.1.1.1.1.1.1.1.1.2
theorem get_of {d : DefT} (h : d.ok T p = true) : ∃ c, p.get d.f = some c := by
  unfold DefT.ok at h
  cases e : p.get d.f with
  | none => rw [e] at h; cases h
  | some c => exact ⟨c, rfl⟩
/-- ALL DEFS keep the promise that their clean form says -/
theorem all_defs (hcP : cl.P = P) (hcw : cl.w = w) {at_ : Nat → Option (DefT × Addr × FuncData)} (M : Names3 T K mg cl p kit at_) : ∀ n f d a fd, at_ f = some (d, a, fd) → FnOkG P w K mg base (L2.CX P w) (n + 10) a fd d.ps (spC K cl d.ps.length (wpN p kit n f))
  | 0, f, d, a, fd, _ => none_at rfl
  | n + 1, f, d, a, fd, h => by
    obtain ⟨e, A, ok, _⟩ := M.defs f d a fd h
    obtain ⟨c, hc⟩ := get_of ok
    have np := np_of hc ok
    have ih := all_defs hcP hcw M n
    have atF : ∀ g d a fd, at_ g = some (d, a, fd) → FnAt P w K mg base cl T (wpN p kit n g) (n + 10) g a := fun g d a fd hg =>
      ⟨fd, d.ps, d.ps.length, ih g d a fd hg, fun m ks np' gg hs => (M.defs g d a fd hg).2.2.2 m ks np' gg hs⟩
    have F : Facts T P w K mg base cl (gN p kit n) (n + 10) := by
      refine ⟨by omega, hcP, hcw, fun x f hx => ?_, M.cls, fun c f hf => ?_, fun c f hf => ?_, fun c f hf => ?_, fun c f hf => ?_, M.xcl, M.xkit, fun c m f hf => ?_, M.glb, M.blt, M.attr, M.kit_, M.kitc, M.exc, M.tch, by rw [← hcw]; exact M.gdc⟩
      · obtain ⟨d, a, fd, h1, h2⟩ := M.fn x f hx
        exact ⟨a, h2, (M.defs f d a fd h1).2.1.kp, atF f d a fd h1⟩
      · obtain ⟨Ca, d, a, fd, h1, h2, h3⟩ := M.init c f hf
        refine ⟨Ca, a, h1, h3, fd, d.ps, d.ps.length, ?_, fun m ks np' gg hs => (M.defs f d a fd h2).2.2.2 m ks np' gg hs⟩
        cases n with
        | zero => exact .inl fun _ _ _ _ z => z
        | succ m => exact .inr ⟨m + 10, all_defs hcP hcw M m f d a fd h2, by omega⟩
      · obtain ⟨Ca, d, a, fd, h1, h2, h3⟩ := M.own c f hf
        refine ⟨Ca, a, h1, h3, fd, d.ps, d.ps.length, ?_⟩
        cases n with
        | zero => exact ⟨0, ⟨fun vs H Q E ⟨_, _, _, _, _, _, _, z, _⟩ => z.elim, fun A outer s H args us vs Q E _ _ _ _ _ ⟨_, _, _, _, _, _, _, z, _⟩ => z.elim⟩, by omega, fun m ks np' gg hs => (M.defs f d a fd h2).2.2.2 m ks np' gg hs⟩
        | succ m => exact ⟨m + 10, all_defs hcP hcw M m f d a fd h2, by omega, fun m ks np' gg hs => (M.defs f d a fd h2).2.2.2 m ks np' gg hs⟩
      · obtain ⟨Ca, d, a, fd, h1, h2, h3⟩ := M.ownL c f hf
        refine ⟨Ca, a, h1, h3, fd, d.ps, d.ps.length, ?_⟩
        cases n with
        | zero => exact ⟨0, ⟨fun vs H Q E ⟨_, _, _, _, _, _, _, z, _⟩ => z.elim, fun A outer s H args us vs Q E _ _ _ _ _ ⟨_, _, _, _, _, _, _, z, _⟩ => z.elim⟩, by omega, fun m ks np' gg hs => (M.defs f d a fd h2).2.2.2 m ks np' gg hs⟩
        | succ m => exact ⟨m + 10, all_defs hcP hcw M m f d a fd h2, by omega, fun m ks np' gg hs => (M.defs f d a fd h2).2.2.2 m ks np' gg hs⟩
      · obtain ⟨Ca, d, a, fd, h1, h2, h3⟩ := M.ownB c f hf
        exact ⟨Ca, a, h1, h3, atF f d a fd h2⟩
      · obtain ⟨Ca, d, a, fd, h1, h2, h3, h4⟩ := M.mth c m f hf
        exact ⟨Ca, a, h1, h3, h4, atF f d a fd h2⟩
    have q := def_step F A hc ok
    rw [np, e] at q
    have e2 : n + 1 + 10 = n + 10 + 1 := by omega
    rw [e2]
    exact q
end
end L3

namespace L3
open PySem L2
/-! ### the tables of a law, as lists -/
def AllP {α : Type} (P : α → Prop) : List α → Prop
  | [] => True
  | x :: xs => P x ∧ AllP P xs
theorem AllP.mem {α : Type} {P : α → Prop} {x : α} : ∀ {xs : List α}, AllP P xs → x ∈ xs → P x
  | y :: ys, ⟨h, t⟩, m => by
    rcases List.mem_cons.mp m with e | m
    · subst e; exact h
    · exact AllP.mem t m
def look {α β : Type} [DecidableEq α] (xs : List (α × β)) (x : α) : Option β := (xs.find? fun q => decide (q.1 = x)).map (·.2)
theorem look_mem {α β : Type} [DecidableEq α] {xs : List (α × β)} {x : α} {y : β} (h : look xs x = some y) : (x, y) ∈ xs := by
  unfold look at h
  obtain ⟨q, h1, h2⟩ := Option.map_eq_some_iff.mp h
  have h3 := List.find?_some h1
  have h4 := List.mem_of_find?_eq_some h1
  simp only [decide_eq_true_eq] at h3
  obtain ⟨a, b⟩ := q
  simp only at h2 h3
  subst h2 h3
  exact h4
structure TabL where
  fn : List (Str × Nat) := []
  cls : List (Str × Nat) := []
  glb : List (Str × D) := []
  blt : List Str := []
  shape : List ((Nat × Nat × List Str) × (Nat × List Src)) := []
  init : List (Nat × Nat) := []
  own : List (Nat × Nat) := []
  ownL : List (Nat × Nat) := []
  ownB : List (Nat × Nat) := []
  xcl : List Nat := []
  xkit : List ((Nat × (String ⊕ Nat)) × Bool) := []
  mth : List ((Nat × Str) × Nat) := []
  attr : List (Nat × Str) := []
  exc : List Nat := []
  tch : List (Str × List Nat) := []
  gdc : List (Str × List (Str × Int)) := []
def TabL.tab (L : TabL) : Tab where
  fn := look L.fn
  cls := look L.cls
  glb := look L.glb
  blt := fun x => decide (x ∈ L.blt)
  shape := fun f m ks => look L.shape (f, m, ks)
  init := look L.init
  own := look L.own
  ownL := look L.ownL
  ownB := look L.ownB
  xcl := fun c => decide (c ∈ L.xcl)
  xkit := fun c u => look L.xkit (c, u)
  mth := fun c m => look L.mth (c, m)
  attr := fun c f => decide ((c, f) ∈ L.attr)
  exc := fun c => decide (c ∈ L.exc)
  tch := fun x cs => decide ((x, cs) ∈ L.tch)
  gdc := look L.gdc
abbrev Kit := List ((String ⊕ Nat) × (String ⊕ Nat) × Bool)
def Kit.get (k : Kit) (t u : String ⊕ Nat) : Option Bool := (k.find? fun q => decide (q.1 = t) && decide (q.2.1 = u)).map (·.2.2)
theorem Kit.get_mem {k : Kit} {t u : String ⊕ Nat} {b : Bool} (h : k.get t u = some b) : (t, u, b) ∈ k := by
  unfold Kit.get at h
  obtain ⟨q, h1, h2⟩ := Option.map_eq_some_iff.mp h
  have h3 := List.find?_some h1
  have h4 := List.mem_of_find?_eq_some h1
  simp only [Bool.and_eq_true, decide_eq_true_eq] at h3
  obtain ⟨a, c, d⟩ := q
  obtain ⟨h5, h6⟩ := h3
  simp only at h2 h5 h6
  subst h2 h5 h6
  exact h4
/-- the kinds of data, one of another -/
def kitPlain : Kit := [(.inl "NoneType", .inl "int", false), (.inl "bool", .inl "int", true), (.inl "int", .inl "int", true), (.inl "str", .inl "int", false), (.inl "tuple", .inl "int", false), (.inl "list", .inl "int", false), (.inl "dict", .inl "int", false),
  (.inl "NoneType", .inl "bool", false), (.inl "bool", .inl "bool", true), (.inl "int", .inl "bool", false), (.inl "str", .inl "bool", false), (.inl "tuple", .inl "bool", false), (.inl "list", .inl "bool", false), (.inl "dict", .inl "bool", false),
  (.inl "NoneType", .inl "str", false), (.inl "bool", .inl "str", false), (.inl "int", .inl "str", false), (.inl "str", .inl "str", true), (.inl "tuple", .inl "str", false), (.inl "list", .inl "str", false), (.inl "dict", .inl "str", false),
  (.inl "NoneType", .inl "tuple", false), (.inl "bool", .inl "tuple", false), (.inl "int", .inl "tuple", false), (.inl "str", .inl "tuple", false), (.inl "tuple", .inl "tuple", true), (.inl "list", .inl "tuple", false), (.inl "dict", .inl "tuple", false),
  (.inl "NoneType", .inl "list", false), (.inl "bool", .inl "list", false), (.inl "int", .inl "list", false), (.inl "str", .inl "list", false), (.inl "tuple", .inl "list", false), (.inl "list", .inl "list", true), (.inl "dict", .inl "list", false)]
def KitP (K : PySem.W.Frag) (cl : ClsT) (q : (String ⊕ Nat) × (String ⊕ Nat) × Bool) : Prop := ∀ vt, tyVal cl q.1 = some vt → ∃ vu, tyVal cl q.2.1 = some vu ∧ PySem.W.kitOne K vt vu = some q.2.2
theorem kitP_ty {K : PySem.W.Frag} {cl : ClsT} {t u : String} {b : Bool} (h : PySem.W.kitOne K (.type t) (.type u) = some b) : KitP K cl (.inl t, .inl u, b) := fun vt e => by
  have e' : vt = .type t := (Option.some.inj e).symm
  rw [e']
  exact ⟨_, rfl, h⟩
section
variable {K : PySem.W.Frag} {mg : Str → Option Value} {cl : ClsT}
/-- the defs, numbered from i -/
def Ents (K : PySem.W.Frag) (T : Tab) (p : Prog3) : Nat → List (DefT × Addr × FuncData) → Prop
  | _, [] => True
  | i, e :: r => (e.1.f = i ∧ DefAt K e.1 e.2.1 e.2.2 ∧ e.1.ok T p = true) ∧ Ents K T p (i + 1) r
theorem Ents.get {T : Tab} {p : Prog3} {e : DefT × Addr × FuncData} : ∀ (E : List (DefT × Addr × FuncData)) (i j : Nat), Ents K T p i E → E[j]? = some e → e.1.f = i + j ∧ DefAt K e.1 e.2.1 e.2.2 ∧ e.1.ok T p = true := by
  intro E
  induction E with
  | nil => intro i j _ q; simp at q
  | cons a r ih =>
    intro i j h q
    cases j with
    | zero =>
      simp only [List.getElem?_cons_zero, Option.some.injEq] at q
      rw [← q]
      exact h.1
    | succ j =>
      have := ih (i + 1) j h.2 (by simpa using q)
      rw [show i + 1 + j = i + (j + 1) by omega] at this
      exact this
/-- what a class is good for that is raised -/
structure ExcK (K : PySem.W.Frag) (Ca : Addr) : Prop where
  x1 : PySem.W.excIn K Ca [.type "ValueError", .type "Exception", .type "BaseException", .type "object"] "ValueError.__new__" = true
  x2 : PySem.W.keepIn K (.ref Ca) = true
  x3 : PySem.W.subIn K (.ref Ca) (.type "BaseException") = some true
  x4 : PySem.W.typeIn K (.ref Ca) = some (.type "type")
abbrev clL (P : Program) (w : World) (CL : List Addr) : ClsT := ⟨fun c => CL[c]?, P, w⟩
structure LawN (P : Program) (w : World) (L : TabL) (K : PySem.W.Frag) (mg : Str → Option Value) (CL : List Addr) (p : Prog3) (kit : Kit) (E : List (DefT × Addr × FuncData)) : Prop where
  ents : Ents K L.tab p 0 E
  shape : AllP (fun q => ∃ e, E[q.1.1]? = some e ∧ q.2.1 = e.1.ps.length ∧ BindsC K e.2.2 e.1.ps q.1.2.1 q.1.2.2 q.2.2) L.shape
  fn : AllP (fun q => ∃ e, E[q.2]? = some e ∧ mg q.1 = some (.ref e.2.1)) L.fn
  cls : AllP (fun q => ∃ Ca, CL[q.2]? = some Ca ∧ mg q.1 = some (.ref Ca)) L.cls
  init : AllP (fun q => ∃ Ca e, CL[q.1]? = some Ca ∧ E[q.2]? = some e ∧ Mk K Ca e.2.1) L.init
  own : AllP (fun q => ∃ Ca e, CL[q.1]? = some Ca ∧ E[q.2]? = some e ∧ OwnEX K Ca e.2.1) L.own
  ownL : AllP (fun q => ∃ Ca e, CL[q.1]? = some Ca ∧ E[q.2]? = some e ∧ OwnL K Ca e.2.1) L.ownL
  ownB : AllP (fun q => ∃ Ca e, CL[q.1]? = some Ca ∧ E[q.2]? = some e ∧ OwnB K Ca e.2.1) L.ownB
  xcl : AllP (fun c => ∀ Ca, CL[c]? = some Ca → ExcC K Ca) L.xcl
  xkit : AllP (fun q => ∀ Ca, CL[q.1.1]? = some Ca → ∃ vu, tyVal (clL P w CL) q.1.2 = some vu ∧ PySem.W.kitOne K (.ref Ca) vu = some q.2) L.xkit
  mth : AllP (fun q => ∃ Ca e, CL[q.1.1]? = some Ca ∧ E[q.2]? = some e ∧ Cls K Ca ∧ Meth K Ca q.1.2 e.2.1) L.mth
  glb : AllP (fun q => ∃ u v, mg q.1 = some u ∧ RelV v u ∧ ∀ H, Rep K H q.2 v) L.glb
  blt : AllP (fun x => mg x = none) L.blt
  attr : AllP (fun q => ∀ Ca, CL[q.1]? = some Ca → Cls K Ca ∧ NoAttr K Ca q.2) L.attr
  kit_ : AllP (KitP K (clL P w CL)) kit
  kitc : AllP (fun q => ∀ c Ca, q.1 = .inr c → CL[c]? = some Ca → ClsOk K Ca) kit
  exc : AllP (fun c => ∀ Ca, CL[c]? = some Ca → ExcK K Ca) L.exc
  tch : AllP (fun q : Str × List Nat => ∃ c, (mg q.1 = some c ∨ (mg q.1 = none ∧ bootBuiltins q.1 = some c ∧ q.1 ≠ ("__name__" : Str))) ∧ SubOk K (clL P w CL) c fun i => decide (i ∈ q.2)) L.tch
  gdc : AllP (fun q => ∃ p, mg q.1 = some (.ref p) ∧ WDct K w p q.2 ∧ ∃ es m, K.lookup p = some ⟨.type "dict", none, .dict es m, #[]⟩) L.gdc
theorem LawN.names {P : Program} {w : World} {L : TabL} {CL : List Addr} {p : Prog3} {kit : Kit} {E : List (DefT × Addr × FuncData)} (W : LawN P w L K mg CL p kit E) : Names3 L.tab K mg (clL P w CL) p kit.get (fun f => E[f]?) := by
  refine ⟨fun f d a fd h => ?_, fun x f h => ?_, fun x c h => ?_, fun c f h => ?_, fun c f h => ?_, fun c f h => ?_, fun c f h => ?_, fun c Ca h hc => ?_, fun c u b Ca h hc => ?_, fun c m f h => ?_, fun x d h => ?_, fun x h => ?_, fun c f Ca h hc => ?_, fun t u b vt h1 h2 => ?_, fun c u b Ca h hc => ?_, fun c Ca h hc => ?_, fun x cs h => ?_, fun x tab h => ?_⟩
  · obtain ⟨h1, h2, h3⟩ := Ents.get _ _ _ W.ents h
    refine ⟨by simpa using h1, h2, h3, fun m ks np g hs => ?_⟩
    obtain ⟨e, e1, e2, e3⟩ := W.shape.mem (look_mem hs)
    simp only at e1 e2 e3
    rw [h] at e1
    cases e1
    exact ⟨e2, e3⟩
  · obtain ⟨⟨d, a, fd⟩, e1, e2⟩ := W.fn.mem (look_mem h)
    exact ⟨d, a, fd, e1, e2⟩
  · exact W.cls.mem (look_mem h)
  · obtain ⟨Ca, ⟨d, a, fd⟩, e1, e2, e3⟩ := W.init.mem (look_mem h)
    exact ⟨Ca, d, a, fd, e1, e2, e3⟩
  · obtain ⟨Ca, ⟨d, a, fd⟩, e1, e2, e3⟩ := W.own.mem (look_mem h)
    exact ⟨Ca, d, a, fd, e1, e2, e3⟩
  · obtain ⟨Ca, ⟨d, a, fd⟩, e1, e2, e3⟩ := W.ownL.mem (look_mem h)
    exact ⟨Ca, d, a, fd, e1, e2, e3⟩
  · obtain ⟨Ca, ⟨d, a, fd⟩, e1, e2, e3⟩ := W.ownB.mem (look_mem h)
    exact ⟨Ca, d, a, fd, e1, e2, e3⟩
  · exact W.xcl.mem (of_decide_eq_true h) Ca hc
  · exact W.xkit.mem (look_mem h) Ca hc
  · obtain ⟨Ca, ⟨d, a, fd⟩, e1, e2, e3, e4⟩ := W.mth.mem (look_mem h)
    exact ⟨Ca, d, a, fd, e1, e2, e3, e4⟩
  · exact W.glb.mem (look_mem h)
  · exact W.blt.mem (of_decide_eq_true h)
  · exact W.attr.mem (of_decide_eq_true h) Ca hc
  · exact W.kit_.mem (Kit.get_mem h1) vt h2
  · exact W.kitc.mem (Kit.get_mem h) c Ca rfl hc
  · have q := W.exc.mem (of_decide_eq_true h) Ca hc
    exact ⟨q.x1, q.x2, q.x3, q.x4⟩
  · exact W.tch.mem (of_decide_eq_true h)
  · exact W.gdc.mem (look_mem h)
/-! ### how calls are bound -/
def posn (n : Nat) : List Src := (List.range n).map Src.pos
theorem gath_posn : ∀ (ds es : List D), gath (posn ds.length) ds es = ds := fun ds es => by
  unfold gath posn
  rw [List.map_map]
  apply List.ext_getElem
  · simp
  · intro i h1 h2
    simp [Src.get, h2]
/-- all arguments by place -/
theorem bindsC_pos {fd : FuncData} {ps : List Str} (h : ∀ us : List Value, us.length = ps.length → bindArgs fd ⟨us, []⟩ = pure (ps.zip us)) : BindsC K fd ps ps.length [] (posn ps.length) :=
  ⟨fun us _ => us, fun vs _ => vs, fun s us ws _ hl hw => by
    have e : ws = [] := List.eq_nil_of_length_eq_zero hw
    subst e
    exact .of_eq (h us hl), fun r _ => r, fun H ds vs es zs hl _ r _ => by
    rw [← hl, gath_posn]
    exact r⟩
end
/-! ### the law -/
/-- what the law's text answers, over data -/
def LawTrue (p : Prog3) (kit : Kit) (n f : Nat) : Prop := ∀ ns : List Int, ns.length ≤ 63 → (∀ z ∈ ns, Builtin.Int.intBits z ≤ 1048576) → wpN p kit.get n f [.rls (ns.map D.int)] (fun _ => none) (fun d _ => d = .bl true) fun _ _ => False
def spL (K : PySem.W.Frag) : Sp := fun vs H Q _ => ∃ (a : Addr) (ns : List Int), vs = [.ref a] ∧ RlS K H a (ns.map V.int) ∧ ns.length ≤ 63 ∧ (∀ z ∈ ns, Builtin.Int.intBits z ≤ 1048576) ∧ ∀ H', Q (.bl true) H'
theorem repL_ints {K : PySem.W.Frag} {H : Hp} : ∀ ns : List Int, RepL K H (ns.map D.int) (ns.map V.int)
  | [] => .nil
  | n :: ns => .cons (.int n) (repL_ints ns)
theorem law_ok {L : TabL} {P : Program} {w : World} {K : PySem.W.Frag} {mg : Str → Option Value} {base : Heap} {CL : List Addr} {p : Prog3} {kit : Kit} {E : List (DefT × Addr × FuncData)} (W : LawN P w L K mg CL p kit E) {n f : Nat} {d : DefT} {a : Addr} {fd : FuncData}
    (h : E[f]? = some (d, a, fd)) {x : Str} (hx : d.ps = [x]) (S : LawTrue p kit n f) : FnOkG P w K mg base (L2.CX P w) (n + 10) a fd [x] (spL K) := by
  have q := all_defs (P := P) (w := w) (base := base) rfl rfl W.names n f d a fd h
  rw [hx] at q
  refine q.imp fun vs H Q E ⟨b, ns, e, hS, hl, hb, hq⟩ => ?_
  subst e
  refine ⟨[.rls (ns.map D.int)], fun _ => none, _, _, .cons (.rls hS (repL_ints ns)) .nil, rfl, (fun _ _ e => by cases e), S ns hl hb, fun d C' v H' e r _ _ => ?_, fun _ _ _ _ _ z => z.elim⟩
  subst e
  cases r
  exact hq H'
theorem walk3 {l : PySem.W.OpenLaw} {q : Program} {loose : List Str} {XP : (Str → Option Value) → Heap → Prop} {YP : World → Heap → Prop} {d : DefRec} {K : Params → PySem.W.Frag} {x : Str} {k : Nat} (hn : l.most = some 63) (hdf : d.params.defaults = []) (hr : Room k callerA)
    (hY : ∀ (w : World) (h : Heap), YP w h → (K w.params).In h)
    (F : ∀ (w : World) (mg : Str → Option Value) (fa : Addr) (h : Heap), (K w.params).In h → h.Ns mainGlobals mg → mg d.name = some (.ref fa) →
      ∃ fd : FuncData, (∀ (s : Shared) (u : Value), BindsTo s fd ⟨[u], []⟩ [(x, u)]) ∧ ∀ base : Heap, (K w.params).In base → base.Ns mainGlobals mg → FnOkG l.prog w (K w.params) mg base (L2.CX l.prog w) k fa fd [x] (spL (K w.params))) :
    PySem.W.WalkO q loose XP YP l.row.toRowW d [] (fun f vs => PySem.call f vs) :=
  walk_ofG (n := 63) (k := k) (x := x) (CXx := fun w => L2.CX l.prog w) (sp := fun w => spL (K w.params)) hn (by decide) hdf hr hY F
    (fun w H a ns hl hb hO hS => ⟨a, ns, rfl, by
      rcases hS with (h | ⟨o, h⟩) | h
      · rcases hO a with z | ⟨o, xs, z⟩
        · rw [h] at z; cases z
        · rw [h] at z; cases z
      · exact .inl ⟨o, h⟩
      · exact .inr h, hl, hb, fun _ => rfl⟩) fun _ _ _ _ _ h => by
    obtain ⟨_, _, _, _, _, _, _, _, _, _, _, _, z⟩ := h
    exact z.elim
theorem wpN_eq (p : Prog3) (kit : String ⊕ Nat → String ⊕ Nat → Option Bool) (n f : Nat) (ds : List D) (C : CH) (Q : Kv) (E : Kx) (d : FDef) (h : p.get f = some d) (hl : ds.length = d.np) : wpN p kit (n + 1) f ds C Q E = rdSs (gN p kit n) (exN E) d.body (endN Q) (startN d.ns ds) C := by
  have e : wpN p kit (n + 1) f ds C Q E = (ds.length = d.np ∧ rdSs (gN p kit n) (exN E) d.body (endN Q) (startN d.ns ds) C) := by
    unfold wpN
    simp only [h]
    rfl
  rw [e]
  exact propext ⟨fun h => h.2, fun h => ⟨hl, h⟩⟩
theorem kitPlain_ok {K : PySem.W.Frag} {cl : ClsT} : AllP (KitP K cl) kitPlain := by
  unfold kitPlain
  repeat' first | exact trivial | refine ⟨kitP_ty (by rfl), ?_⟩
theorem kitPlain_c {K : PySem.W.Frag} {CL : List Addr} : AllP (fun q : (String ⊕ Nat) × (String ⊕ Nat) × Bool => ∀ c Ca, q.1 = .inr c → CL[c]? = some Ca → ClsOk K Ca) kitPlain := by
  unfold kitPlain
  repeat' first | exact trivial | refine ⟨fun _ _ e => (by cases e), ?_⟩
theorem relV_int {i : Int} {t : Tok} : RelV (.int i) (.int i t) := ⟨t, rfl⟩
theorem relV_bl {i : Bool} : RelV (.bl i) (.bool i) := rfl
theorem relV_str {i : Str} {t : Tok} : RelV (.str i) (.str i t) := ⟨t, rfl⟩
end L3

namespace L3
open PySem L2
/-! ### calls with keywords and defaults -/
section
variable {K : PySem.W.Frag} {fd : FuncData} {ps : List Str} {n : Nat} {ks : List Str} {gs : List Src}
/-- all are written, some by keywords -/
theorem bindsC_N (g : {α : Type} → List α → List α → List α)
    (hrel : ∀ {vs zs : List V} {us ws : List Value}, Vals vs us → Vals zs ws → Vals (g vs zs) (g us ws))
    (h : ∀ (us ws : List Value), us.length = n → ws.length = ks.length → bindArgs fd ⟨us, ks.zip ws⟩ = pure (ps.zip (g us ws)))
    (rel : ∀ H ds vs es zs, ds.length = n → es.length = ks.length → RepL K H ds vs → RepL K H es zs → RepL K H (gath gs ds es) (g vs zs)) : BindsC K fd ps n ks gs :=
  ⟨fun us ws => g us ws, fun vs zs => g vs zs, fun s us ws _ l1 l2 => .of_eq (h us ws l1 l2), hrel, rel⟩
/-- some are left out: the defaults are the tuple at T, the keyword-only ones stand in the dict at Dk -/
theorem bindsC_D {T Dk : Addr} {o : Obj} {its : List Value} {m : Nat} {dvs : List V} {ms : List (Str × V)} (g : {α : Type} → List α → List α → List α → List α → List α)
    (lT : K.lookup T = some o) (oT : o.data = .seq its.toArray m) (rT : Vals dvs its) (hq : ∀ q ∈ ms, ∃ u, PySem.W.nsIn K Dk q.1 = some (some u) ∧ RelV q.2 u)
    (hrel : ∀ {vs ds mz zs : List V} {us its mv ws : List Value}, Vals vs us → Vals ds its → Vals mz mv → Vals zs ws → Vals (g vs ds mz zs) (g us its mv ws))
    (h : ∀ (us mv ws : List Value), us.length = n → mv.length = ms.length → ws.length = ks.length →
      ∃ k, bindArgs fd ⟨us, ks.zip ws⟩ = seqItems? (.ref T) >>= k ∧ KwChain Dk ((ms.map (·.1)).zip mv) (k (some its.toArray)) (ps.zip (g us its mv ws)))
    (rel : ∀ H ds vs es zs, ds.length = n → es.length = ks.length → RepL K H ds vs → RepL K H es zs → RepL K H (gath gs ds es) (g vs dvs (ms.map (·.2)) zs)) : BindsC K fd ps n ks gs := by
  obtain ⟨mv, hl, rk, hks⟩ := kwd_vals (ms := ms) hq
  refine ⟨fun us ws => g us its mv ws, fun vs zs => g vs dvs (ms.map (·.2)) zs, fun s us ws X l1 l2 => ?_, fun r1 r2 => hrel r1 rT rk r2, rel⟩
  obtain ⟨k, e1, e2⟩ := h us mv ws l1 hl l2
  refine BindsTo.of_looks fun M => ?_
  rw [e1]
  exact looks_items X lT oT (KwChain.looks X hks e2)
end
/-! ### own classes, and what is of which kind -/
theorem AllP.app {α : Type} {P : α → Prop} : ∀ {xs ys : List α}, AllP P xs → AllP P ys → AllP P (xs ++ ys)
  | [], _, _, h => h
  | _ :: _, _, ⟨h, t⟩, g => ⟨h, AllP.app t g⟩
def ownQ (q : (String ⊕ Nat) × (String ⊕ Nat) × Bool) : Bool := match q.1, q.2.1 with
  | .inl _, .inl _ => false
  | _, _ => true
theorem kit_app : ∀ {own : Kit}, own.all ownQ = true → ∀ t u : String, Kit.get (own ++ kitPlain) (.inl t) (.inl u) = kitPlain.get (.inl t) (.inl u)
  | [], _, t, u => rfl
  | q :: own, h, t, u => by
    rw [List.all_cons, Bool.and_eq_true] at h
    have ih := kit_app h.2 t u
    have e : (decide (q.1 = .inl t) && decide (q.2.1 = .inl u)) = false := by
      obtain ⟨a, b, c⟩ := q
      have h1 := h.1
      cases a <;> cases b <;> first | (simp [ownQ] at h1; done) | simp
    unfold Kit.get at ih ⊢
    rw [List.cons_append, List.find?_cons, e]
    exact ih
theorem kitP_in {K : PySem.W.Frag} {cl : ClsT} {t : String} {c : Nat} {Ca : Addr} {b : Bool} (hc : cl c = some Ca) (h : PySem.W.kitOne K (.type t) (.ref Ca) = some b) : KitP K cl (.inl t, .inr c, b) := fun vt e => by
  have e' : vt = .type t := (Option.some.inj e).symm
  rw [e']
  exact ⟨.ref Ca, (show (cl c).map Value.ref = _ by rw [hc]; rfl), h⟩
theorem kitP_of {K : PySem.W.Frag} {cl : ClsT} {t : String} {c : Nat} {Ca : Addr} {b : Bool} (hc : cl c = some Ca) (h : PySem.W.kitOne K (.ref Ca) (.type t) = some b) : KitP K cl (.inr c, .inl t, b) := fun vt e => by
  have e1 : (cl c).map Value.ref = some vt := e
  rw [hc] at e1
  cases e1
  exact ⟨.type t, rfl, h⟩
theorem kitP_own {K : PySem.W.Frag} {cl : ClsT} {c d : Nat} {Ca Da : Addr} {b : Bool} (hc : cl c = some Ca) (hd : cl d = some Da) (h : PySem.W.kitOne K (.ref Ca) (.ref Da) = some b) : KitP K cl (.inr c, .inr d, b) := fun vt e => by
  have e1 : (cl c).map Value.ref = some vt := e
  rw [hc] at e1
  cases e1
  exact ⟨.ref Da, (show (cl d).map Value.ref = _ by rw [hd]; rfl), h⟩
theorem tyC_ins {C : CH} {p : Addr} {c : Nat} {fs : List (Str × D)} (h : C p = some (.ins c fs)) : tyC C (.ref p) = some (.inr c) := by simp [tyC, h]
theorem tyC_lst {C : CH} {p : Addr} {xs : List D} (h : C p = some (.lst xs)) : tyC C (.ref p) = some (.inl "list") := by simp [tyC, h]
end L3

namespace L3
open PySem L2
/-! ### data without addresses -/
inductive T where
  | non | bl (b : Bool) | int (i : Int) | str (x : Str) | tup (xs : List T)
mutual
def T.d : T → D
  | .non => .non
  | .bl b => .bl b
  | .int i => .int i
  | .str x => .str x
  | .tup xs => .tup (T.ds xs)
def T.ds : List T → List D
  | [] => []
  | x :: xs => x.d :: T.ds xs
end
theorem T.ds_map : ∀ xs : List T, T.ds xs = xs.map T.d
  | [] => rfl
  | x :: xs => by rw [T.ds, T.ds_map xs, List.map_cons]
theorem T.ds_length (xs : List T) : (T.ds xs).length = xs.length := by rw [T.ds_map, List.length_map]
mutual
def T.p : T → PyData
  | .non => .none
  | .bl b => .bool b
  | .int i => .int i
  | .str x => .str x
  | .tup xs => .tuple (T.pl xs)
def T.pl : List T → List PyData
  | [] => []
  | x :: xs => x.p :: T.pl xs
end
mutual
theorem T.snap (C : CH) : ∀ t : T, Snap C t.d t.p
  | .non => .non
  | .bl b => .bl b
  | .int i => .int i
  | .str x => .str x
  | .tup xs => .tup (T.snaps C xs)
theorem T.snaps (C : CH) : ∀ ts : List T, SnapL C (T.ds ts) (T.pl ts)
  | [] => .nil
  | x :: xs => .cons (T.snap C x) (T.snaps C xs)
end
/-! ### reading clean texts by simp -/
theorem SqC_tup {C : CH} {xs ds : List D} : SqC C (.tup xs) ds ↔ xs = ds := by
  unfold SqC
  constructor
  · rintro (h | h | ⟨p, h, _⟩)
    · exact D.tup.inj h
    · cases h
    · cases h
  · intro h; exact .inl (by rw [h])
theorem SqC_rls {C : CH} {xs ds : List D} : SqC C (.rls xs) ds ↔ xs = ds := by
  unfold SqC
  constructor
  · rintro (h | h | ⟨p, h, _⟩)
    · cases h
    · exact D.rls.inj h
    · cases h
  · intro h; exact .inr (.inl (by rw [h]))
theorem SqC_ref {C : CH} {p : Addr} {ds : List D} : SqC C (.ref p) ds ↔ C p = some (.lst ds) := by
  unfold SqC LsC
  constructor
  · rintro (h | h | ⟨q, h, h2⟩)
    · cases h
    · cases h
    · cases h; exact h2
  · intro h; exact .inr (.inr ⟨p, rfl, h⟩)
theorem SqC_str {C : CH} {z : Str} {ds : List D} : SqC C (.str z) ds ↔ False := by
  unfold SqC
  constructor
  · rintro (h | h | ⟨q, h, h2⟩) <;> cases h
  · exact False.elim
theorem SqC_int {C : CH} {z : Int} {ds : List D} : SqC C (.int z) ds ↔ False := by
  unfold SqC
  constructor
  · rintro (h | h | ⟨q, h, h2⟩) <;> cases h
  · exact False.elim
theorem LsC_iff {C : CH} {p : Addr} {ds : List D} : LsC C p ds ↔ C p = some (.lst ds) := Iff.rfl
theorem cup_old {C : CH} {p q : Addr} {o u : CO} (hp : C p = none) (hq : C q = some o) : cup C p u q = some o := by
  rw [cup_ne (fun e => by rw [e, hp] at hq; cases hq)]
  exact hq
theorem tyC_non {C : CH} : tyC C .non = some (.inl "NoneType") := rfl
theorem tyC_bl {C : CH} {b : Bool} : tyC C (.bl b) = some (.inl "bool") := rfl
theorem tyC_int {C : CH} {b : Int} : tyC C (.int b) = some (.inl "int") := rfl
theorem tyC_str {C : CH} {b : Str} : tyC C (.str b) = some (.inl "str") := rfl
theorem tyC_tup {C : CH} {b : List D} : tyC C (.tup b) = some (.inl "tuple") := rfl
theorem atI_nat {α : Type} {xs : List α} {i : Nat} {c : α} (h : xs[i]? = some c) : L2.atI xs (i : Int) = some c := L2.atI_nat h
theorem atI_zero {α : Type} {c : α} {r : List α} : L2.atI (c :: r) 0 = some c := L2.atI_nat (j := 0) rfl
theorem atI_one {α : Type} {b c : α} {r : List α} : L2.atI (b :: c :: r) 1 = some c := L2.atI_nat (j := 1) rfl
theorem atI_two {α : Type} {a b c : α} {r : List α} : L2.atI (a :: b :: c :: r) 2 = some c := L2.atI_nat (j := 2) rfl
theorem sl_lt0 : 0 < sizeLine := by decide
theorem sl_le0 : 0 ≤ sizeLine := by decide
theorem sl_lt1 : 1 < sizeLine := by decide
theorem sl_le1 : 1 ≤ sizeLine := by decide
theorem sl_lt2 : 2 < sizeLine := by decide
theorem sl_le2 : 2 ≤ sizeLine := by decide
theorem sl_lt3 : 3 < sizeLine := by decide
theorem sl_le3 : 3 ≤ sizeLine := by decide
theorem sl_lt4 : 4 < sizeLine := by decide
theorem sl_le4 : 4 ≤ sizeLine := by decide
theorem sl_lt5 : 5 < sizeLine := by decide
theorem sl_le5 : 5 ≤ sizeLine := by decide
theorem sl_lt6 : 6 < sizeLine := by decide
theorem sl_le6 : 6 ≤ sizeLine := by decide
theorem sl_lt7 : 7 < sizeLine := by decide
theorem sl_le7 : 7 ≤ sizeLine := by decide
theorem sl_lt8 : 8 < sizeLine := by decide
theorem sl_le8 : 8 ≤ sizeLine := by decide
theorem sl_lt9 : 9 < sizeLine := by decide
theorem sl_le9 : 9 ≤ sizeLine := by decide
theorem sl_lt10 : 10 < sizeLine := by decide
theorem sl_le10 : 10 ≤ sizeLine := by decide
theorem sl_lt11 : 11 < sizeLine := by decide
theorem sl_le11 : 11 ≤ sizeLine := by decide
theorem sl_lt12 : 12 < sizeLine := by decide
theorem sl_le12 : 12 ≤ sizeLine := by decide
theorem oInF_str2 {f : Bool → Bool} {w a b : Str} {C : CH} {Q : Kv} : oInF f (.str w) (.tup [.str a, .str b]) C Q ↔ Q (.bl (f (decide (w = a) || decide (w = b)))) C := by
  have e : L2.inV (toV (.str w)) ([D.str a, D.str b].map toV) = (decide (w = a) || decide (w = b)) := by
    show ((L2.eqV (.str a) (.str w)) || ((L2.eqV (.str b) (.str w)) || false)) = _
    rw [Bool.or_false]
    have q : ∀ x : Str, L2.eqV (.str x) (.str w) = decide (w = x) := fun x => by
      by_cases h : w = x
      · subst h; simp [L2.eqV]
      · have h' : ¬ x = w := fun z => h z.symm
        simp [L2.eqV, h, h']
    rw [q, q]
  constructor
  · rintro ⟨ds, h1, _, _, h⟩
    rw [SqC_tup] at h1
    subst h1
    rw [e] at h
    exact h
  · intro h
    exact ⟨_, SqC_tup.mpr rfl, rfl, rfl, by rw [e]; exact h⟩
theorem rdSs_cons {G : G3} {ex : Kxs} {s : CS} {r : List CS} {D : EndsC} {σ : Env3} {C : CH} : rdSs G ex (s :: r) D σ C = rdS G ex s { D with nx := rdSs G ex r D } σ C := rfl
theorem rdSs_nil {G : G3} {ex : Kxs} {D : EndsC} {σ : Env3} {C : CH} : rdSs G ex [] D σ C = D.nx σ C := rfl
theorem rdS_while {G : G3} {ex : Kxs} {t : CE} {b : List CS} {D : EndsC} {σ : Env3} {C : CH} : rdS G ex (.whileS t b) D σ C = ∃ m, whileN (rdT G ex t) (rdSs G ex b) D m σ C := rfl
theorem isLst_of {C : CH} {p : Addr} {xs : List D} (h : C p = some (.lst xs)) : isLst (.ref p) C := ⟨p, xs, rfl, h⟩
theorem oAddA_int {i j : Int} {C : CH} {Q : Kv} : oAddA (.int i) (.int j) C Q ↔ Q (.int (i + j)) C := Iff.rfl
theorem oAddA_str {i j : Str} {C : CH} {Q : Kv} : oAddA (.str i) (.str j) C Q ↔ i.length + j.length ≤ sizeLine ∧ Q (.str (i ++ j)) C := Iff.rfl
theorem oAddA_tup {i j : List D} {C : CH} {Q : Kv} : oAddA (.tup i) (.tup j) C Q ↔ i.length + j.length ≤ sizeLine ∧ Q (.tup (i ++ j)) C := Iff.rfl
theorem oI2_int {P : Int → Int → Prop} {g : Int → Int → D} {i j : Int} {C : CH} {Q : Kv} : oI2 P g (.int i) (.int j) C Q ↔ P i j ∧ Q (g i j) C := Iff.rfl
theorem oMulA_int {i j : Int} {C : CH} {Q : Kv} : oMulA (.int i) (.int j) C Q ↔ CMul i j ∧ Q (.int (i * j)) C := Iff.rfl
theorem oMulA_lst {p : Addr} {k : Int} {C : CH} {Q : Kv} : oMulA (.ref p) (.int k) C Q ↔ ∃ xs, C p = some (.lst xs) ∧ -(2 ^ 63) ≤ k ∧ k < 2 ^ 63 ∧ xs.length * k.toNat ≤ sizeLine ∧ ∀ p, C p = none → Q (.ref p) (cup C p (.lst (List.replicate k.toNat xs).flatten)) := Iff.rfl
theorem oMulA_str {z : Str} {k : Int} {C : CH} {Q : Kv} : oMulA (.str z) (.int k) C Q ↔ 0 ≤ k ∧ k ≤ 1000 ∧ z.length ≤ 1000 ∧ Q (.str (repS z k.toNat)) C := Iff.rfl
theorem oMulA_tup {xs : List D} {k : Int} {C : CH} {Q : Kv} : oMulA (.tup xs) (.int k) C Q ↔ xs ≠ [] ∧ 0 ≤ k ∧ k ≤ 1000 ∧ xs.length ≤ 1000 ∧ Q (.tup (List.replicate k.toNat xs).flatten) C := Iff.rfl
theorem oIxA_tup {xs : List D} {i : Int} {C : CH} {Q : Kv} : oIxA (.tup xs) (.int i) C Q ↔ ∃ d, L2.atI xs i = some d ∧ Q d C := by
  show (∃ i' d, D.int i = .int i' ∧ L2.atI xs i' = some d ∧ Q d C) ↔ _
  simp
theorem oIxA_rls {xs : List D} {i : Int} {C : CH} {Q : Kv} : oIxA (.rls xs) (.int i) C Q ↔ ∃ d, L2.atI xs i = some d ∧ Q d C := by
  show (∃ i' d, D.int i = .int i' ∧ L2.atI xs i' = some d ∧ Q d C) ↔ _
  simp
theorem oIxA_str {z : Str} {i : Int} {C : CH} {Q : Kv} : oIxA (.str z) (.int i) C Q ↔ z.length ≤ sizeLine ∧ ∃ c, L2.atI z.cps.toList i = some c ∧ Q (.str ⟨#[c]⟩) C := by
  show (∃ i' c, D.int i = .int i' ∧ z.length ≤ sizeLine ∧ L2.atI z.cps.toList i' = some c ∧ Q (.str ⟨#[c]⟩) C) ↔ _
  simp
/-- an item of a list that is written, of a dict -/
theorem oIxA_lst {p : Addr} {xs : List D} {i : Int} {d : D} {C : CH} {Q : Kv} (h : C p = some (.lst xs)) (e : L2.atI xs i = some d) (q : Q d C) : oIxA (.ref p) (.int i) C Q := by
  unfold oIxA
  simp only [h]
  exact ⟨i, d, rfl, e, q⟩
theorem oIxA_dic {p : Addr} {kvs : List (L2.Key × D)} {y d : D} {k : L2.Key} {C : CH} {Q : Kv} (h : C p = some (.dic kvs)) (hk : keyD y = some k) (e : valC kvs k = some d) (q : Q d C) : oIxA (.ref p) y C Q := by
  unfold oIxA
  simp only [h]
  exact ⟨k, d, hk, e, q⟩
theorem oSl_tup {xs : List D} {lo hi : Option Int} {C : CH} {Q : Kv} : oSl (.tup xs) lo hi C Q ↔ Q (.tup (cutD xs lo hi)) C := Iff.rfl
theorem oSl_str {z : Str} {lo hi : Option Int} {C : CH} {Q : Kv} : oSl (.str z) lo hi C Q ↔ z.length ≤ sizeLine ∧ Q (.str (cutS z lo hi)) C := Iff.rfl
theorem oEqN_int {f : Bool → Bool} {i j : Int} {C : CH} {Q : Kv} : oEqN f (.int i) (.int j) C Q ↔ Q (.bl (f (decide (i = j)))) C := by
  constructor
  · rintro ⟨p, q, h1, h2, _, _, h⟩
    cases h1; cases h2
    exact h
  · intro h
    exact ⟨_, _, .int i, .int j, rfl, rfl, h⟩
theorem oEqN_bl {f : Bool → Bool} {i j : Bool} {C : CH} {Q : Kv} : oEqN f (.bl i) (.bl j) C Q ↔ Q (.bl (f (i == j))) C := by
  constructor
  · rintro ⟨p, q, h1, h2, _, _, h⟩
    cases h1; cases h2
    exact h
  · intro h
    exact ⟨_, _, .bl i, .bl j, rfl, rfl, h⟩
theorem oEqN_str {f : Bool → Bool} {i j : Str} {C : CH} {Q : Kv} (hi : PyData.strOk i = true) (hj : PyData.strOk j = true) (h : Q (.bl (f (i == j))) C) : oEqN f (.str i) (.str j) C Q := by
  exact ⟨_, _, .str i, .str j, by simp [deepOk, PyData.canLay0, PyData.depth, hi], by simp [deepOk, PyData.canLay0, PyData.depth, hj], h⟩
theorem oEqN_strI {f : Bool → Bool} {i j : Str} {C : CH} {Q : Kv} (hi : PyData.strOk i = true) (hj : PyData.strOk j = true) : oEqN f (.str i) (.str j) C Q ↔ Q (.bl (f (decide (i = j)))) C := by
  have e : (PyData.eqv (.str i) (.str j)) = decide (i = j) := by
    show (i == j) = _
    by_cases h : i = j <;> simp [h]
  constructor
  · rintro ⟨p, q, h1, h2, _, _, h⟩
    cases h1; cases h2
    rw [e] at h
    exact h
  · intro h
    exact ⟨_, _, .str i, .str j, by simp [deepOk, PyData.canLay0, PyData.depth, hi], by simp [deepOk, PyData.canLay0, PyData.depth, hj], by rw [e]; exact h⟩
theorem oEqN_T {f : Bool → Bool} {x y : T} {C : CH} {Q : Kv} (hx : deepOk x.p = true) (hy : deepOk y.p = true) (h : Q (.bl (f (PyData.eqv x.p y.p))) C) : oEqN f x.d y.d C Q := ⟨_, _, x.snap C, y.snap C, hx, hy, h⟩
theorem kP (t u : String) (b : Bool) (h : (kitPlain.get (.inl t) (.inl u) == some b) = true) : kitPlain.get (.inl t) (.inl u) = some b := by simpa using h
theorem k_NoneType_int : kitPlain.get (.inl "NoneType") (.inl "int") = some false := by decide +kernel
theorem k_bool_int : kitPlain.get (.inl "bool") (.inl "int") = some true := by decide +kernel
theorem k_int_int : kitPlain.get (.inl "int") (.inl "int") = some true := by decide +kernel
theorem k_str_int : kitPlain.get (.inl "str") (.inl "int") = some false := by decide +kernel
theorem k_tuple_int : kitPlain.get (.inl "tuple") (.inl "int") = some false := by decide +kernel
theorem k_list_int : kitPlain.get (.inl "list") (.inl "int") = some false := by decide +kernel
theorem k_dict_int : kitPlain.get (.inl "dict") (.inl "int") = some false := by decide +kernel
theorem k_NoneType_bool : kitPlain.get (.inl "NoneType") (.inl "bool") = some false := by decide +kernel
theorem k_bool_bool : kitPlain.get (.inl "bool") (.inl "bool") = some true := by decide +kernel
theorem k_int_bool : kitPlain.get (.inl "int") (.inl "bool") = some false := by decide +kernel
theorem k_str_bool : kitPlain.get (.inl "str") (.inl "bool") = some false := by decide +kernel
theorem k_tuple_bool : kitPlain.get (.inl "tuple") (.inl "bool") = some false := by decide +kernel
theorem k_list_bool : kitPlain.get (.inl "list") (.inl "bool") = some false := by decide +kernel
theorem k_dict_bool : kitPlain.get (.inl "dict") (.inl "bool") = some false := by decide +kernel
theorem k_NoneType_str : kitPlain.get (.inl "NoneType") (.inl "str") = some false := by decide +kernel
theorem k_bool_str : kitPlain.get (.inl "bool") (.inl "str") = some false := by decide +kernel
theorem k_int_str : kitPlain.get (.inl "int") (.inl "str") = some false := by decide +kernel
theorem k_str_str : kitPlain.get (.inl "str") (.inl "str") = some true := by decide +kernel
theorem k_tuple_str : kitPlain.get (.inl "tuple") (.inl "str") = some false := by decide +kernel
theorem k_list_str : kitPlain.get (.inl "list") (.inl "str") = some false := by decide +kernel
theorem k_dict_str : kitPlain.get (.inl "dict") (.inl "str") = some false := by decide +kernel
theorem k_NoneType_tuple : kitPlain.get (.inl "NoneType") (.inl "tuple") = some false := by decide +kernel
theorem k_bool_tuple : kitPlain.get (.inl "bool") (.inl "tuple") = some false := by decide +kernel
theorem k_int_tuple : kitPlain.get (.inl "int") (.inl "tuple") = some false := by decide +kernel
theorem k_str_tuple : kitPlain.get (.inl "str") (.inl "tuple") = some false := by decide +kernel
theorem k_tuple_tuple : kitPlain.get (.inl "tuple") (.inl "tuple") = some true := by decide +kernel
theorem k_list_tuple : kitPlain.get (.inl "list") (.inl "tuple") = some false := by decide +kernel
theorem k_dict_tuple : kitPlain.get (.inl "dict") (.inl "tuple") = some false := by decide +kernel
theorem k_NoneType_list : kitPlain.get (.inl "NoneType") (.inl "list") = some false := by decide +kernel
theorem k_bool_list : kitPlain.get (.inl "bool") (.inl "list") = some false := by decide +kernel
theorem k_int_list : kitPlain.get (.inl "int") (.inl "list") = some false := by decide +kernel
theorem k_str_list : kitPlain.get (.inl "str") (.inl "list") = some false := by decide +kernel
theorem k_tuple_list : kitPlain.get (.inl "tuple") (.inl "list") = some false := by decide +kernel
theorem k_list_list : kitPlain.get (.inl "list") (.inl "list") = some true := by decide +kernel
theorem k_dict_list : kitPlain.get (.inl "dict") (.inl "list") = some false := by decide +kernel

theorem len_cps (z : Str) : z.length = z.cps.toList.length := (Array.length_toList).symm
/-- a comprehension whose items are told by f, nothing is changed -/
theorem lcL_map {TT : CT} {vs : List Nat} {σ : Env3} {e : CTE} {G : CH → Prop} {Kq : List D → CH → Prop} (f : D → D) {C : CH} (hG : G C) : ∀ (ds acc : List D), (∀ d ∈ ds, ∃ σ2, bindT TT d (wipe3 σ vs) = some σ2 ∧ ∀ Q : Kv, Q (f d) C → e σ2 C Q) → acc.length + ds.length ≤ sizeLine → Kq (acc ++ ds.map f) C → lcL TT vs σ cYes e G Kq ds acc C
  | [], acc, _, _, h => ⟨hG, by simpa using h⟩
  | d :: ds, acc, h, hl, hk => by
    obtain ⟨σ2, e1, e2⟩ := h d List.mem_cons_self
    simp only [List.length_cons] at hl
    refine ⟨hG, σ2, e1, ?_⟩
    show e σ2 C _
    refine e2 _ ⟨by omega, lcL_map f hG ds (acc ++ [f d]) (fun d' hd => h d' (List.mem_cons_of_mem _ hd)) ?_ ?_⟩
    · rw [List.length_append]; simp only [List.length_cons, List.length_nil]; omega
    · simpa using hk
/-- all(..) of a new list of truths -/
theorem oAll_new {f : List Bool → D} {C : CH} {p : Addr} {bs : List Bool} {Q : Kv} {ds : List D} (e : ds = bs.map D.bl) (h : Q (f bs) (cup C p (.lst ds))) : oAll f [.ref p] (cup C p (.lst ds)) Q := ⟨p, bs, rfl, by rw [e]; exact cup_same, h⟩
theorem sub_new {C : CH} {p : Addr} {o : CO} (h : C p = none) : Sub C (cup C p o) := Sub.new h

theorem oMaxL1 {C : CH} {p : Addr} {i : Int} {Q : Kv} (h : C p = some (.lst [.int i])) (q : Q (.int i) C) : oMaxL [.ref p] C Q := ⟨p, [i], i, rfl, h, by simp, by simp, by simp, q⟩
theorem oMaxL2 {C : CH} {p : Addr} {i j : Int} {Q : Kv} (h : C p = some (.lst [.int i, .int j])) (q : Q (.int (if j > i then j else i)) C) : oMaxL [.ref p] C Q :=
  ⟨p, [i, j], _, rfl, h, by simp, by split <;> simp, fun y hy => by
    simp only [List.mem_cons, List.not_mem_nil, or_false] at hy
    rcases hy with rfl | rfl <;> split <;> omega, q⟩
theorem iSeq_tup {a : CTE} {σ : Env3} {C : CH} {xs : List D} {R : List D → (CH → Prop) → CH → Prop} (h : a σ C fun d C1 => d = .tup xs ∧ R xs (fun _ => True) C1) (hm : ∀ Q Q' : Kv, (∀ d C, Q d C → Q' d C) → a σ C Q → a σ C Q') : iSeq a σ C R :=
  hm _ _ (fun d C1 ⟨e, h⟩ => ⟨xs, .inl ⟨.inl e, h⟩⟩) h
/-- walking a tuple, a list -/
theorem seq_tup {xs : List D} {C : CH} {R : List D → (CH → Prop) → CH → Prop} (h : R xs (fun _ => True) C) : ∃ ds, ((D.tup xs = .tup ds ∨ D.tup xs = .rls ds) ∧ R ds (fun _ => True) C) ∨ (∃ p, D.tup xs = .ref p ∧ LsC C p ds ∧ R ds (fun C => LsC C p ds) C) := ⟨xs, .inl ⟨.inl rfl, h⟩⟩
theorem seq_rls {xs : List D} {C : CH} {R : List D → (CH → Prop) → CH → Prop} (h : R xs (fun _ => True) C) : ∃ ds, ((D.rls xs = .tup ds ∨ D.rls xs = .rls ds) ∧ R ds (fun _ => True) C) ∨ (∃ p, D.rls xs = .ref p ∧ LsC C p ds ∧ R ds (fun C => LsC C p ds) C) := ⟨xs, .inl ⟨.inr rfl, h⟩⟩
theorem seq_ref {q : Addr} {xs : List D} {C : CH} {R : List D → (CH → Prop) → CH → Prop} (e : C q = some (.lst xs)) (h : R xs (fun C => LsC C q xs) C) : ∃ ds, ((D.ref q = .tup ds ∨ D.ref q = .rls ds) ∧ R ds (fun _ => True) C) ∨ (∃ p, D.ref q = .ref p ∧ LsC C p ds ∧ R ds (fun C => LsC C p ds) C) := ⟨xs, .inr ⟨q, rfl, e, h⟩⟩

theorem cutD_tail {x : D} {xs : List D} : cutD (x :: xs) (some 1) none = xs := by
  unfold cutD
  have e1 : HT.sIx (x :: xs).length 0 (some 1) = 1 := by simp [HT.sIx]
  have e2 : HT.sIx (x :: xs).length (x :: xs).length none = (x :: xs).length := by simp [HT.sIx]
  rw [e1, e2]
  simp

theorem lcL_T0 {TT : CT} {vs : List Nat} {σ : Env3} {e : CTE} {G : CH → Prop} {Kq : List D → CH → Prop} (f : T → D) {C : CH} (hG : G C) : ∀ (ts : List T) (acc : List D), (∀ t ∈ ts, ∃ σ2, bindT TT t.d (wipe3 σ vs) = some σ2 ∧ ∀ Q : Kv, Q (f t) C → e σ2 C Q) → acc.length + ts.length ≤ sizeLine → Kq (acc ++ ts.map f) C → lcL TT vs σ cYes e G Kq (T.ds ts) acc C
  | [], acc, _, _, h => ⟨hG, by simpa using h⟩
  | d :: ds, acc, h, hl, hk => by
    obtain ⟨σ2, e1, e2⟩ := h d List.mem_cons_self
    simp only [List.length_cons] at hl
    refine ⟨hG, σ2, e1, ?_⟩
    show e σ2 C _
    refine e2 _ ⟨by omega, lcL_T0 f hG ds (acc ++ [f d]) (fun d' hd => h d' (List.mem_cons_of_mem _ hd)) ?_ ?_⟩
    · rw [List.length_append]; simp only [List.length_cons, List.length_nil]; omega
    · simpa using hk
theorem lcL_T {TT : CT} {vs : List Nat} {σ : Env3} {e : CTE} {G : CH → Prop} {Kq : List D → CH → Prop} (f : T → D) {C : CH} (hG : G C) (ts : List T) (h : ∀ t ∈ ts, ∃ σ2, bindT TT t.d (wipe3 σ vs) = some σ2 ∧ ∀ Q : Kv, Q (f t) C → e σ2 C Q) (hl : ts.length ≤ sizeLine) (hk : Kq (ts.map f) C) : lcL TT vs σ cYes e G Kq (T.ds ts) [] C :=
  lcL_T0 f hG ts [] h (by simpa using hl) (by simpa using hk)

theorem sub_at {C0 C : CH} {p : Addr} {o : CO} (hp : C0 p = none) (hs : Sub C0 C) : Sub C0 (cup C p o) := fun a u h => by
  rw [cup_ne (fun z => by rw [z, hp] at h; cases h)]
  exact hs a u h

theorem lcL_of0 {α : Type} {TT : CT} {vs : List Nat} {σ : Env3} {e : CTE} {G : CH → Prop} {Kq : List D → CH → Prop} (g f : α → D) {C : CH} (hG : G C) : ∀ (ts : List α) (acc : List D), (∀ t ∈ ts, ∃ σ2, bindT TT (g t) (wipe3 σ vs) = some σ2 ∧ ∀ Q : Kv, Q (f t) C → e σ2 C Q) → acc.length + ts.length ≤ sizeLine → Kq (acc ++ ts.map f) C → lcL TT vs σ cYes e G Kq (ts.map g) acc C
  | [], acc, _, _, h => ⟨hG, by simpa using h⟩
  | d :: ds, acc, h, hl, hk => by
    obtain ⟨σ2, e1, e2⟩ := h d List.mem_cons_self
    simp only [List.length_cons] at hl
    refine ⟨hG, σ2, e1, ?_⟩
    show e σ2 C _
    refine e2 _ ⟨by omega, lcL_of0 g f hG ds (acc ++ [f d]) (fun d' hd => h d' (List.mem_cons_of_mem _ hd)) ?_ ?_⟩
    · rw [List.length_append]; simp only [List.length_cons, List.length_nil]; omega
    · simpa using hk
theorem lcL_of {α : Type} {TT : CT} {vs : List Nat} {σ : Env3} {e : CTE} {G : CH → Prop} {Kq : List D → CH → Prop} (g f : α → D) {C : CH} (hG : G C) (ts : List α) (h : ∀ t ∈ ts, ∃ σ2, bindT TT (g t) (wipe3 σ vs) = some σ2 ∧ ∀ Q : Kv, Q (f t) C → e σ2 C Q) (hl : ts.length ≤ sizeLine) (hk : Kq (ts.map f) C) : lcL TT vs σ cYes e G Kq (ts.map g) [] C :=
  lcL_of0 g f hG ts [] h (by simpa using hl) (by simpa using hk)

/-- a comprehension with a test -/
theorem lcL_if0 {α : Type} {TT : CT} {vs : List Nat} {σ : Env3} {tt : CTT} {e : CTE} {G : CH → Prop} {Kq : List D → CH → Prop} (g f : α → D) (p : α → Bool) {C : CH} (hG : G C) : ∀ (ts : List α) (acc : List D), (∀ t ∈ ts, ∃ σ2, bindT TT (g t) (wipe3 σ vs) = some σ2 ∧ (∀ Q : Bool → CH → Prop, Q (p t) C → tt σ2 C Q) ∧ ∀ Q : Kv, Q (f t) C → e σ2 C Q) → acc.length + ts.length ≤ sizeLine → Kq (acc ++ (ts.filter p).map f) C → lcL TT vs σ tt e G Kq (ts.map g) acc C
  | [], acc, _, _, h => ⟨hG, by simpa using h⟩
  | d :: ds, acc, h, hl, hk => by
    obtain ⟨σ2, e1, e2, e3⟩ := h d List.mem_cons_self
    simp only [List.length_cons] at hl
    refine ⟨hG, σ2, e1, e2 _ ?_⟩
    by_cases hp : p d = true
    · rw [if_pos hp]
      refine e3 _ ⟨by omega, lcL_if0 g f p hG ds (acc ++ [f d]) (fun d' hd => h d' (List.mem_cons_of_mem _ hd)) ?_ ?_⟩
      · rw [List.length_append]; simp only [List.length_cons, List.length_nil]; omega
      · simpa [hp] using hk
    · rw [if_neg hp]
      refine lcL_if0 g f p hG ds acc (fun d' hd => h d' (List.mem_cons_of_mem _ hd)) (by omega) ?_
      simpa [hp] using hk
theorem lcL_if {α : Type} {TT : CT} {vs : List Nat} {σ : Env3} {tt : CTT} {e : CTE} {G : CH → Prop} {Kq : List D → CH → Prop} (g f : α → D) (p : α → Bool) {C : CH} (hG : G C) (ts : List α) (h : ∀ t ∈ ts, ∃ σ2, bindT TT (g t) (wipe3 σ vs) = some σ2 ∧ (∀ Q : Bool → CH → Prop, Q (p t) C → tt σ2 C Q) ∧ ∀ Q : Kv, Q (f t) C → e σ2 C Q) (hl : ts.length ≤ sizeLine) (hk : Kq ((ts.filter p).map f) C) : lcL TT vs σ tt e G Kq (ts.map g) [] C :=
  lcL_if0 g f p hG ts [] h (by simpa using hl) (by simpa using hk)
/-- a comprehension whose items change the heap: J is kept, R is told of each item -/
theorem lcL_run {TT : CT} {vs : List Nat} {σ : Env3} {e : CTE} {G : CH → Prop} {Kq : List D → CH → Prop} (J : Nat → CH → Prop) (R : D → Prop) (hG : ∀ k C, J k C → G C) :
    ∀ (items acc : List D) (C : CH), J items.length C → (∀ d ∈ acc, R d) → acc.length + items.length ≤ sizeLine → (∀ acc' C', J 0 C' → acc'.length = acc.length + items.length → (∀ d ∈ acc', R d) → Kq acc' C') →
      (∀ d ∈ items, ∀ k C, J (k + 1) C → ∃ σ2, bindT TT d (wipe3 σ vs) = some σ2 ∧ ∀ Q : Kv, (∀ y C', R y → J k C' → Q y C') → e σ2 C Q) → lcL TT vs σ cYes e G Kq items acc C
  | [], acc, C, hJ, hR, hl, hK, h => ⟨hG _ _ hJ, hK acc C hJ rfl hR⟩
  | d :: ds, acc, C, hJ, hR, hl, hK, h => by
    obtain ⟨σ2, e1, e2⟩ := h d List.mem_cons_self ds.length C hJ
    simp only [List.length_cons] at hl hK
    refine ⟨hG _ _ hJ, σ2, e1, ?_⟩
    show e σ2 C _
    refine e2 _ fun y C' hy hJ' => ⟨by omega, lcL_run J R hG ds (acc ++ [y]) C' hJ' ?_ ?_ ?_ fun d' hd => h d' (List.mem_cons_of_mem _ hd)⟩
    · intro d' hd'
      rcases List.mem_append.mp hd' with hd' | hd'
      · exact hR d' hd'
      · rw [List.mem_singleton.mp hd']; exact hy
    · rw [List.length_append]; simp only [List.length_cons, List.length_nil]; omega
    · intro acc' C' hJ0 hla hRa
      refine hK acc' C' hJ0 ?_ hRa
      rw [hla, List.length_append]; simp only [List.length_cons, List.length_nil]; omega
end L3

namespace My
open PySem L3
open L2 (inClass defArgs defBody defScope)
def top (i : Nat) : Stmt := PySem.Challenge.pw_loopforms_k05_programs_made.main.body.getD i (.Pass ⟨0, 0, 0, 0⟩)
abbrev i_is_number : Nat := 0
abbrev i_is_name : Nat := 1
abbrev i_is_word : Nat := 2
abbrev i_measured : Nat := 3
abbrev i_is_value : Nat := 4
abbrev i_is_term : Nat := 5
abbrev i_may_use : Nat := 6
abbrev i_may_ask : Nat := 7
abbrev i_are_flags : Nat := 8
abbrev i_Checker___init__ : Nat := 9
abbrev i_Checker_is_flag : Nat := 10
abbrev i_Checker_is_block : Nat := 11
abbrev i_Checker_is_statement : Nat := 12
abbrev i_Checker_is_question : Nat := 13
abbrev i_Program___init__ : Nat := 14
abbrev i_Program___eq__ : Nat := 15
abbrev i__law_begin : Nat := 16
abbrev i__law_mixed : Nat := 17
abbrev i__law_take : Nat := 18
abbrev i__law_pick : Nat := 19
abbrev i__law_name : Nat := 20
abbrev i__law_plan : Nat := 21
abbrev i__law_word : Nat := 22
abbrev i__law_height : Nat := 23
abbrev i__law_value : Nat := 24
abbrev i__law_term : Nat := 25
abbrev i__law_block : Nat := 26
abbrev i__law_statement : Nat := 27
abbrev i__law_put_in : Nat := 28
abbrev i__law_unlike : Nat := 29
abbrev i_law : Nat := 30
abbrev c_LoopError : Nat := 0
abbrev c_NoProgram : Nat := 1
abbrev c_Checker : Nat := 2
abbrev c_Program : Nat := 3
/-- is_number: slots 0=thing -/
def b_is_number : List CS := [(.ret (.and (.isi (.inl "int") (.var 0)) (.not (.isi (.inl "bool") (.var 0)))))]
/-- is_name: slots 0=thing 1=sign -/
def b_is_name : List CS := [(.ifS (.or (.not (.isi (.inl "str") (.var 0))) (.or (.not (.chain .le .le (.cst (.int 1)) (.bi .len [(.var 0)]) (.glb "MOST_SIGNS" (.int 8)))) (.cmp .notInS (.idx (.var 0) (.cst (.int 0))) (.glb "LETTERS" (.str "abcdefghijklmnopqrstuvwxyz"))))) [(.ret (.cst (.bl false)))] []), (.ret (.bi .all [(.lc (.cmp .inS (.var 1) (.glb "SIGNS" (.str "abcdefghijklmnopqrstuvwxyz0123456789"))) (.nm 1) [1] .txt [(.var 0)] [])]))]
/-- is_word: slots 0=thing 1=sign -/
def b_is_word : List CS := [(.ifS (.or (.not (.isi (.inl "str") (.var 0))) (.not (.chain .le .le (.cst (.int 1)) (.bi .len [(.var 0)]) (.glb "MOST_SIGNS" (.int 8))))) [(.ret (.cst (.bl false)))] []), (.ret (.bi .all [(.lc (.cmp .inS (.var 1) (.glb "CAPITALS" (.str "ABCDEFGHIJKLMNOPQRSTUVWXYZ"))) (.nm 1) [1] .txt [(.var 0)] [])]))]
/-- measured: slots 0=thing 1=room 2=parts 3=part -/
def b_measured : List CS := [(.ifS (.call i_is_number 1 1 0 [.pos 0] [(.var 0)] []) [(.ret (.ite (.chain .le .le (.cst (.int 1)) (.var 0) (.glb "MOST_LEVEL" (.int 3))) (.tup [(.cst (.int 0)), (.var 0)]) (.cst .non)))] []), (.ifS (.or (.cmp .eq (.var 1) (.cst (.int 0))) (.or (.not (.isi (.inl "tuple") (.var 0))) (.or (.not (.chain .le .le (.cst (.int 2)) (.bi .len [(.var 0)]) (.cst (.int 3)))) (.not (.call i_is_name 1 1 0 [.pos 0] [(.idx (.var 0) (.cst (.int 0)))] []))))) [(.ret (.cst .non))] []), (.asg (.nm 2) (.lc (.call i_measured 2 2 0 [.pos 0, .pos 1] [(.var 3), (.bin .sub (.var 1) (.cst (.int 1)))] []) (.nm 3) [3] .seq [(.slice (.var 0) (some (.cst (.int 1))) none)] [])), (.ifS (.cmp .inD (.cst .non) (.var 2)) [(.ret (.cst .non))] []), (.ret (.tup [(.bin .add (.cst (.int 1)) (.bi .maxL [(.lc (.idx (.var 3) (.cst (.int 0))) (.nm 3) [3] .seq [(.var 2)] [])])), (.bi .maxL [(.lc (.idx (.var 3) (.cst (.int 1))) (.nm 3) [3] .seq [(.var 2)] [])])]))]
/-- is_value: slots 0=thing -/
def b_is_value : List CS := [(.ret (.cmp .isNot (.call i_measured 2 2 0 [.pos 0, .pos 1] [(.var 0), (.glb "MOST_HEIGHT" (.int 4))] []) (.cst .non)))]
/-- is_term: slots 0=thing -/
def b_is_term : List CS := [(.ret (.and (.isi (.inl "tuple") (.var 0)) (.call i_is_value 1 1 0 [.pos 0] [(.var 0)] [])))]
/-- may_use: slots 0=value 1=level 2=called -/
def b_may_use : List CS := [(.ifS (.call i_is_number 1 1 0 [.pos 0] [(.var 0)] []) [(.ret (.chain .le .le (.cst (.int 1)) (.var 0) (.var 1)))] []), (.ret (.and (.call i_is_value 1 1 0 [.pos 0] [(.var 0)] []) (.cmp .inD (.var 0) (.var 2))))]
/-- may_ask: slots 0=term 1=level 2=called 3=part -/
def b_may_ask : List CS := [(.ret (.and (.call i_is_term 1 1 0 [.pos 0] [(.var 0)] []) (.bi .all [(.lc (.call i_may_use 3 3 0 [.pos 0, .pos 1, .pos 2] [(.var 3), (.var 1), (.var 2)] []) (.nm 3) [3] .seq [(.slice (.var 0) (some (.cst (.int 1))) none)] [])])))]
/-- are_flags: slots 0=flags 1=flag -/
def b_are_flags : List CS := [(.ifS (.or (.not (.isi (.inl "tuple") (.var 0))) (.or (.cmp .gt (.bi .len [(.var 0)]) (.glb "MOST_FLAGS" (.int 40))) (.not (.bi .all [(.lc (.call i_is_name 1 1 0 [.pos 0] [(.var 1)] []) (.nm 1) [1] .seq [(.var 0)] [])])))) [(.ret (.cst (.bl false)))] []), (.ret (.cmp .eq (.lenN (.var 0)) (.bi .len [(.var 0)])))]
/-- Checker.__init__: slots 0=self 1=flags -/
def b_Checker___init__ : List CS := [(.setF [2] "flags" (.var 0) (.var 1)), (.setF [2] "many" (.var 0) (.cst (.int 0)))]
/-- Checker.is_flag: slots 0=self 1=name -/
def b_Checker_is_flag : List CS := [(.ret (.and (.call i_is_name 1 1 0 [.pos 0] [(.var 1)] []) (.cmp .inF (.var 1) (.attr [2, 3] "flags" (.var 0)))))]
/-- Checker.is_block: slots 0=self 1=block 2=level 3=called 4=deep 5=known 6=at 7=statement -/
def b_Checker_is_block : List CS := [(.ifS (.or (.not (.isi (.inl "tuple") (.var 1))) (.or (.cmp .gt (.var 4) (.glb "MOST_DEEP" (.int 40))) (.cmp .gt (.var 2) (.glb "MOST_LEVEL" (.int 3))))) [(.ret (.cst (.bl false)))] []), (.augF [2] "many" (.var 0) (.bi .len [(.var 1)])), (.ifS (.cmp .gt (.attr [2] "many" (.var 0)) (.glb "MOST_STATEMENTS" (.int 400))) [(.ret (.cst (.bl false)))] []), (.asg (.nm 5) (.bi .list [(.var 3)])), (.forS (.tp [6, 7]) .enu [(.var 1)] [(.ifS (.not (.meth 2 "is_statement" i_Checker_is_statement 5 4 0 [.pos 0, .pos 1, .pos 2, .pos 3, .pos 4] (.var 0) [(.var 7), (.var 2), (.var 5), (.var 4)] [])) [(.ret (.cst (.bl false)))] []), (.ifS (.and (.cmp .inF (.idx (.var 7) (.cst (.int 0))) (.tup [(.cst (.str "break")), (.cst (.str "continue"))])) (.or (.cmp .eq (.var 2) (.cst (.int 0))) (.cmp .lt (.var 6) (.bin .sub (.bi .len [(.var 1)]) (.cst (.int 1)))))) [(.ret (.cst (.bl false)))] []), (.ifS (.cmp .eq (.idx (.var 7) (.cst (.int 0))) (.cst (.str "call"))) [(.expr (.mt .append (.var 5) [(.idx (.var 7) (.cst (.int 1)))]))] [])]), (.ret (.cst (.bl true)))]
/-- Checker.is_statement: slots 0=self 1=statement 2=level 3=called 4=deep 5=word 6=inner -/
def b_Checker_is_statement : List CS := [(.ifS (.or (.not (.isi (.inl "tuple") (.var 1))) (.or (.cmp .eq (.bi .len [(.var 1)]) (.cst (.int 0))) (.not (.isi (.inl "str") (.idx (.var 1) (.cst (.int 0))))))) [(.ret (.cst (.bl false)))] []), (.asg (.nm 5) (.idx (.var 1) (.cst (.int 0)))), (.ifS (.cmp .ne (.getW "LENGTHS" [("call", 2), ("emit", 2), ("if", 4), ("for", 4), ("break", 1), ("continue", 1), ("set", 2), ("clear", 2)] (.var 5) (.cst (.int 0))) (.bi .len [(.var 1)])) [(.ret (.cst (.bl false)))] []), (.ifS (.cmp .eq (.var 5) (.cst (.str "call"))) [(.ret (.call i_may_ask 3 3 0 [.pos 0, .pos 1, .pos 2] [(.idx (.var 1) (.cst (.int 1))), (.var 2), (.var 3)] []))] []), (.ifS (.cmp .eq (.var 5) (.cst (.str "emit"))) [(.ret (.or (.call i_is_word 1 1 0 [.pos 0] [(.idx (.var 1) (.cst (.int 1)))] []) (.call i_may_use 3 3 0 [.pos 0, .pos 1, .pos 2] [(.idx (.var 1) (.cst (.int 1))), (.var 2), (.var 3)] [])))] []), (.ifS (.cmp .inF (.var 5) (.tup [(.cst (.str "set")), (.cst (.str "clear"))])) [(.ret (.meth 2 "is_flag" i_Checker_is_flag 2 1 0 [.pos 0, .pos 1] (.var 0) [(.idx (.var 1) (.cst (.int 1)))] []))] []), (.ifS (.cmp .inF (.var 5) (.tup [(.cst (.str "break")), (.cst (.str "continue"))])) [(.ret (.cst (.bl true)))] []), (.asg (.nm 6) (.var 2)), (.ifS (.cmp .eq (.var 5) (.cst (.str "for"))) [(.asg (.nm 6) (.bin .add (.var 2) (.cst (.int 1)))), (.ifS (.not (.call i_may_ask 3 3 0 [.pos 0, .pos 1, .pos 2] [(.idx (.var 1) (.cst (.int 1))), (.var 2), (.var 3)] [])) [(.ret (.cst (.bl false)))] [])] [(.ifS (.not (.meth 2 "is_question" i_Checker_is_question 4 3 0 [.pos 0, .pos 1, .pos 2, .pos 3] (.var 0) [(.idx (.var 1) (.cst (.int 1))), (.var 2), (.var 3)] [])) [(.ret (.cst (.bl false)))] [])]), (.ifS (.not (.meth 2 "is_block" i_Checker_is_block 5 4 0 [.pos 0, .pos 1, .pos 2, .pos 3, .pos 4] (.var 0) [(.idx (.var 1) (.cst (.int 2))), (.var 6), (.var 3), (.bin .add (.var 4) (.cst (.int 1)))] [])) [(.ret (.cst (.bl false)))] []), (.ret (.meth 2 "is_block" i_Checker_is_block 5 4 0 [.pos 0, .pos 1, .pos 2, .pos 3, .pos 4] (.var 0) [(.idx (.var 1) (.cst (.int 3))), (.var 2), (.var 3), (.bin .add (.var 4) (.cst (.int 1)))] []))]
/-- Checker.is_question: slots 0=self 1=question 2=level 3=called -/
def b_Checker_is_question : List CS := [(.ifS (.or (.not (.isi (.inl "tuple") (.var 1))) (.or (.cmp .ne (.bi .len [(.var 1)]) (.cst (.int 2))) (.not (.isi (.inl "str") (.idx (.var 1) (.cst (.int 0))))))) [(.ret (.cst (.bl false)))] []), (.ifS (.cmp .eq (.idx (.var 1) (.cst (.int 0))) (.cst (.str "flag"))) [(.ret (.meth 2 "is_flag" i_Checker_is_flag 2 1 0 [.pos 0, .pos 1] (.var 0) [(.idx (.var 1) (.cst (.int 1)))] []))] []), (.ret (.and (.cmp .eq (.idx (.var 1) (.cst (.int 0))) (.cst (.str "ask"))) (.call i_may_ask 3 3 0 [.pos 0, .pos 1, .pos 2] [(.idx (.var 1) (.cst (.int 1))), (.var 2), (.var 3)] [])))]
/-- Program.__init__: slots 0=self 1=body 2=other 3=flags 4=checker -/
def b_Program___init__ : List CS := [(.ifS (.not (.call i_are_flags 1 1 0 [.pos 0] [(.var 3)] [])) [(.raise 1)] []), (.asg (.nm 4) (.make 2 i_Checker___init__ 2 1 0 [.pos 0, .pos 1] [(.var 3)] [])), (.ifS (.or (.not (.meth 2 "is_block" i_Checker_is_block 5 4 0 [.pos 0, .pos 1, .pos 2, .pos 3, .pos 4] (.var 4) [(.var 1), (.cst (.int 1)), (.lst []), (.cst (.int 1))] [])) (.not (.meth 2 "is_block" i_Checker_is_block 5 4 0 [.pos 0, .pos 1, .pos 2, .pos 3, .pos 4] (.var 4) [(.var 2), (.cst (.int 0)), (.lst []), (.cst (.int 1))] []))) [(.raise 1)] []), (.setF [3] "body" (.var 0) (.var 1)), (.setF [3] "other" (.var 0) (.var 2)), (.setF [3] "flags" (.var 0) (.var 3))]
/-- Program.__eq__: slots 0=self 1=other -/
def b_Program___eq__ : List CS := [(.ifS (.not (.isi (.inr 3) (.var 1))) [(.ret (.cst (.bl false)))] []), (.ret (.and (.cmp .eq (.attr [3] "body" (.var 0)) (.attr [3] "body" (.var 1))) (.and (.cmp .eq (.attr [3] "other" (.var 0)) (.attr [3] "other" (.var 1))) (.cmp .eq (.attr [2, 3] "flags" (.var 0)) (.attr [2, 3] "flags" (.var 1))))))]
/-- _law_begin: slots 0=_law_script 1=_law_great 2=_law_cell -/
def b__law_begin : List CS := [(.asg (.nm 1) (.lc (.bin .sub (.var 2) (.bin .pow (.cst (.int 10)) (.cst (.int 18)))) (.nm 2) [2] .seq [(.var 0)] [(.cmp .ge (.var 2) (.bin .pow (.cst (.int 10)) (.cst (.int 18))))])), (.ret (.dic [(.cst (.str "great")), (.cst (.str "cells")), (.cst (.str "left")), (.cst (.str "turn"))] [(.var 1), (.bi .list [(.var 0)]), (.cst (.int 0)), (.cst (.int 0))]))]
/-- _law_mixed: slots 0=_law_state 1=_law_turn 2=_law_found 3=_law_prime 4=_law_blend 5=_law_cell -/
def b__law_mixed : List CS := [(.asg (.nm 1) (.bin .add (.idx (.var 0) (.cst (.str "turn"))) (.cst (.int 1)))), (.setI (.var 0) (.cst (.str "turn")) (.var 1)), (.asg (.nm 2) (.cst (.int 0))), (.forS (.nm 3) .seq [(.lst [(.cst (.int 2147483629)), (.cst (.int 2147483587)), (.cst (.int 2147483579)), (.cst (.int 2147483563)), (.cst (.int 2147483549))])] [(.asg (.nm 4) (.bin .add (.bin .mul (.cst (.int 90023)) (.var 1)) (.bin .fdiv (.var 3) (.cst (.int 17))))), (.forS (.nm 5) .seq [(.idx (.var 0) (.cst (.str "cells")))] [(.asg (.nm 4) (.bin .mod (.bi .int [(.bin .add (.bin .mul (.var 4) (.cst (.int 48271))) (.var 5))]) (.var 3)))]), (.asg (.nm 2) (.bin .add (.bin .mul (.var 2) (.cst (.int 2147483647))) (.bin .mod (.bi .int [(.bin .pow (.var 4) (.cst (.int 5)))]) (.var 3))))]), (.ret (.var 2))]
/-- _law_take: slots 0=_law_state 1=_law_size 2=_law_found -/
def b__law_take : List CS := [(.ifS (.cmp .eq (.idx (.var 0) (.cst (.str "left"))) (.cst (.int 0))) [(.setI (.var 0) (.cst (.str "left")) (.ite (.cmp .ne (.idx (.var 0) (.cst (.str "great"))) (.lst [])) (.mt .popAt (.idx (.var 0) (.cst (.str "great"))) [(.cst (.int 0))]) (.call i__law_mixed 1 1 0 [.pos 0] [(.var 0)] [])))] []), (.asg (.nm 2) (.bin .mod (.bi .int [(.idx (.var 0) (.cst (.str "left")))]) (.var 1))), (.setI (.var 0) (.cst (.str "left")) (.bin .fdiv (.idx (.var 0) (.cst (.str "left"))) (.var 1))), (.ret (.var 2))]
/-- _law_pick: slots 0=_law_state 1=_law_some -/
def b__law_pick : List CS := [(.ret (.idx (.var 1) (.call i__law_take 2 2 0 [.pos 0, .pos 1] [(.var 0), (.bi .len [(.var 1)])] [])))]
/-- _law_name: slots 0=_law_state 1=_law_first 2=_law_words 3=_law_signs 4=_law_rest 5=_law_k -/
def b__law_name : List CS := [(.ifS (.cmp .eq (.call i__law_take 2 2 0 [.pos 0, .pos 1] [(.var 0), (.cst (.int 3))] []) (.cst (.int 0))) [(.ret (.call i__law_pick 2 2 0 [.pos 0, .pos 1] [(.var 0), (.var 2)] []))] []), (.asg (.nm 3) (.cst (.str "abcdefghijklmnopqrstuvwxyz0123456789"))), (.asg (.nm 4) (.lc (.call i__law_pick 2 2 0 [.pos 0, .pos 1] [(.var 0), (.var 3)] []) (.nm 5) [5] .rg1 [(.call i__law_pick 2 2 0 [.pos 0, .pos 1] [(.var 0), (.lst [(.cst (.int 0)), (.cst (.int 0)), (.cst (.int 1)), (.cst (.int 2)), (.cst (.int 7))])] [])] [])), (.ret (.bin .add (.call i__law_pick 2 2 0 [.pos 0, .pos 1] [(.var 0), (.var 1)] []) (.mt .join (.cst (.str "")) [(.var 4)])))]
/-- _law_plan: slots 0=_law_state 1=_law_room 2=_law_signals 3=_law_k 4=_law_calls 5=_law_queries 6=_law_opens 7=_law_name_here -/
def b__law_plan : List CS := [(.asg (.nm 2) (.lst [])), (.forS (.nm 3) .rg1 [(.call i__law_pick 2 2 0 [.pos 0, .pos 1] [(.var 0), (.lst [(.cst (.int 0)), (.cst (.int 1)), (.cst (.int 1)), (.cst (.int 2)), (.cst (.int 3))])] [])] [(.asg (.nm 7) (.call i__law_name 3 3 0 [.pos 0, .pos 1, .pos 2] [(.var 0), (.cst (.str "vwxyz")), (.lst [(.cst (.str "x1")), (.cst (.str "x2")), (.cst (.str "yes")), (.cst (.str "while")), (.cst (.str "x"))])] [])), (.asg (.nm 2) (.bin .add (.var 2) (.bin .mul (.lst [(.var 7)]) (.bi .int [(.cmp .notInD (.var 7) (.var 2))]))))]), (.asg (.nm 4) (.lc (.call i__law_name 3 3 0 [.pos 0, .pos 1, .pos 2] [(.var 0), (.cst (.str "abcdefg")), (.lst [(.cst (.str "any")), (.cst (.str "all")), (.cst (.str "and")), (.cst (.str "else")), (.cst (.str "emit")), (.cst (.str "for")), (.cst (.str "f"))])] []) (.nm 3) [3] .rg1 [(.cst (.int 2))] [])), (.asg (.nm 5) (.lc (.call i__law_name 3 3 0 [.pos 0, .pos 1, .pos 2] [(.var 0), (.cst (.str "hijklmn")), (.lst [(.cst (.str "if")), (.cst (.str "in")), (.cst (.str "not")), (.cst (.str "next")), (.cst (.str "none")), (.cst (.str "k"))])] []) (.nm 3) [3] .rg1 [(.cst (.int 2))] [])), (.asg (.nm 6) (.lc (.call i__law_name 3 3 0 [.pos 0, .pos 1, .pos 2] [(.var 0), (.cst (.str "opqrstu")), (.lst [(.cst (.str "or")), (.cst (.str "source")), (.cst (.str "then")), (.cst (.str "pass")), (.cst (.str "set")), (.cst (.str "s"))])] []) (.nm 3) [3] .rg1 [(.cst (.int 2))] [])), (.ifS (.cmp .eq (.call i__law_take 2 2 0 [.pos 0, .pos 1] [(.var 0), (.cst (.int 3))] []) (.cst (.int 0))) [(.par 4 6 (.var 5) (.var 5))] []), (.ret (.dic [(.cst (.str "call")), (.cst (.str "ask")), (.cst (.str "open")), (.cst (.str "flags")), (.cst (.str "room"))] [(.var 4), (.var 5), (.var 6), (.bi .tuple [(.var 2)]), (.var 1)]))]
/-- _law_word: slots 0=_law_state 1=_law_letters 2=_law_k -/
def b__law_word : List CS := [(.asg (.nm 1) (.cst (.str "ABCDEFGHIJKLMNOPQRSTUVWXYZ"))), (.ret (.mt .join (.cst (.str "")) [(.lc (.call i__law_pick 2 2 0 [.pos 0, .pos 1] [(.var 0), (.var 1)] []) (.nm 2) [2] .rg1 [(.call i__law_pick 2 2 0 [.pos 0, .pos 1] [(.var 0), (.lst [(.cst (.int 1)), (.cst (.int 1)), (.cst (.int 2)), (.cst (.int 3)), (.cst (.int 8))])] [])] [])]))]
/-- _law_height: slots 0=_law_value_here 1=_law_part -/
def b__law_height : List CS := [(.ifS (.isi (.inl "int") (.var 0)) [(.ret (.cst (.int 0)))] []), (.ret (.bin .add (.cst (.int 1)) (.bi .maxL [(.lc (.call i__law_height 1 1 0 [.pos 0] [(.var 1)] []) (.nm 1) [1] .seq [(.slice (.var 0) (some (.cst (.int 1))) none)] [])])))]
/-- _law_value: slots 0=_law_state 1=_law_level 2=_law_called -/
def b__law_value : List CS := [(.ifS (.and (.cmp .ne (.var 2) (.lst [])) (.cmp .eq (.call i__law_take 2 2 0 [.pos 0, .pos 1] [(.var 0), (.cst (.int 2))] []) (.cst (.int 0)))) [(.ret (.ite (.cmp .eq (.call i__law_take 2 2 0 [.pos 0, .pos 1] [(.var 0), (.cst (.int 2))] []) (.cst (.int 0))) (.idx (.var 2) (.neg (.cst (.int 1)))) (.call i__law_pick 2 2 0 [.pos 0, .pos 1] [(.var 0), (.var 2)] [])))] []), (.ret (.ite (.cmp .eq (.call i__law_take 2 2 0 [.pos 0, .pos 1] [(.var 0), (.cst (.int 2))] []) (.cst (.int 0))) (.var 1) (.bin .add (.cst (.int 1)) (.call i__law_take 2 2 0 [.pos 0, .pos 1] [(.var 0), (.var 1)] []))))]
/-- _law_term: slots 0=_law_state 1=_law_names 2=_law_level 3=_law_called 4=_law_low 5=_law_parts 6=_law_one 7=_law_k -/
def b__law_term : List CS := [(.asg (.nm 4) (.lc (.var 6) (.nm 6) [6] .seq [(.var 3)] [(.cmp .lt (.call i__law_height 1 1 0 [.pos 0] [(.var 6)] []) (.cst (.int 4)))])), (.asg (.nm 5) (.lc (.call i__law_value 3 3 0 [.pos 0, .pos 1, .pos 2] [(.var 0), (.var 2), (.var 4)] []) (.nm 7) [7] .rg1 [(.bin .add (.cst (.int 1)) (.call i__law_take 2 2 0 [.pos 0, .pos 1] [(.var 0), (.cst (.int 2))] []))] [])), (.ret (.bin .add (.tup [(.call i__law_pick 2 2 0 [.pos 0, .pos 1] [(.var 0), (.var 1)] [])]) (.bi .tuple [(.var 5)])))]
/-- _law_block: slots 0=_law_state 1=_law_plan_here 2=_law_level 3=_law_called 4=_law_nest 5=_law_turn 6=_law_found 7=_law_known -/
def b__law_block : List CS := [(.par 6 7 (.lst []) (.bi .list [(.var 3)])), (.forS (.nm 5) .rg1 [(.call i__law_take 2 2 0 [.pos 0, .pos 1] [(.var 0), (.ite (.cmp .eq (.var 4) (.cst (.int 1))) (.cst (.int 6)) (.cst (.int 4)))] [])] [(.ifS (.cmp .gt (.idx (.var 1) (.cst (.str "room"))) (.cst (.int 0))) [(.setI (.var 1) (.cst (.str "room")) (.bin .sub (.idx (.var 1) (.cst (.str "room"))) (.cst (.int 1)))), (.expr (.mt .append (.var 6) [(.call i__law_statement 5 5 0 [.pos 0, .pos 1, .pos 2, .pos 3, .pos 4] [(.var 0), (.var 1), (.var 2), (.var 7), (.var 4)] [])])), (.ifS (.cmp .eq (.idx (.idx (.var 6) (.neg (.cst (.int 1)))) (.cst (.int 0))) (.cst (.str "call"))) [(.expr (.mt .append (.var 7) [(.idx (.idx (.var 6) (.neg (.cst (.int 1)))) (.cst (.int 1)))]))] [])] [])]), (.ifS (.and (.cmp .gt (.var 2) (.cst (.int 0))) (.and (.cmp .gt (.idx (.var 1) (.cst (.str "room"))) (.cst (.int 0))) (.cmp .eq (.call i__law_take 2 2 0 [.pos 0, .pos 1] [(.var 0), (.ite (.cmp .eq (.var 4) (.cst (.int 1))) (.cst (.int 12)) (.cst (.int 4)))] []) (.cst (.int 0))))) [(.setI (.var 1) (.cst (.str "room")) (.bin .sub (.idx (.var 1) (.cst (.str "room"))) (.cst (.int 1)))), (.expr (.mt .append (.var 6) [(.tup [(.call i__law_pick 2 2 0 [.pos 0, .pos 1] [(.var 0), (.lst [(.cst (.str "break")), (.cst (.str "continue"))])] [])])]))] []), (.ret (.bi .tuple [(.var 6)]))]
/-- _law_statement: slots 0=_law_state 1=_law_plan_here 2=_law_level 3=_law_called 4=_law_nest 5=_law_sorts 6=_law_kind 7=_law_question 8=_law_trunk 9=_law_term_here -/
def b__law_statement : List CS := [(.asg (.nm 5) (.lst [(.cst (.str "word"))])), (.ifS (.cmp .ne (.idx (.var 1) (.cst (.str "flags"))) (.tup [])) [(.asg (.nm 5) (.bin .add (.bin .add (.var 5) (.lst [(.cst (.str "set")), (.cst (.str "set")), (.cst (.str "clear"))])) (.bin .mul (.lst [(.cst (.str "flag")), (.cst (.str "flag"))]) (.bi .int [(.cmp .lt (.var 4) (.cst (.int 6)))]))))] []), (.ifS (.cmp .gt (.var 2) (.cst (.int 0))) [(.asg (.nm 5) (.bin .add (.bin .add (.var 5) (.lst [(.cst (.str "call")), (.cst (.str "call")), (.cst (.str "emit")), (.cst (.str "emit"))])) (.bin .mul (.lst [(.cst (.str "ask")), (.cst (.str "ask")), (.cst (.str "ask"))]) (.bi .int [(.cmp .lt (.var 4) (.cst (.int 6)))])))), (.asg (.nm 5) (.bin .add (.var 5) (.bin .mul (.lst [(.cst (.str "for")), (.cst (.str "for"))]) (.bi .int [(.and (.cmp .lt (.var 4) (.cst (.int 6))) (.cmp .lt (.var 2) (.cst (.int 3))))]))))] []), (.asg (.nm 6) (.call i__law_pick 2 2 0 [.pos 0, .pos 1] [(.var 0), (.var 5)] [])), (.ifS (.cmp .eq (.var 6) (.cst (.str "word"))) [(.ret (.tup [(.cst (.str "emit")), (.call i__law_word 1 1 0 [.pos 0] [(.var 0)] [])]))] []), (.ifS (.cmp .inF (.var 6) (.tup [(.cst (.str "set")), (.cst (.str "clear"))])) [(.ret (.tup [(.var 6), (.call i__law_pick 2 2 0 [.pos 0, .pos 1] [(.var 0), (.idx (.var 1) (.cst (.str "flags")))] [])]))] []), (.ifS (.cmp .eq (.var 6) (.cst (.str "emit"))) [(.ret (.tup [(.cst (.str "emit")), (.call i__law_value 3 3 0 [.pos 0, .pos 1, .pos 2] [(.var 0), (.var 2), (.var 3)] [])]))] []), (.ifS (.cmp .eq (.var 6) (.cst (.str "call"))) [(.ret (.tup [(.cst (.str "call")), (.call i__law_term 4 4 0 [.pos 0, .pos 1, .pos 2, .pos 3] [(.var 0), (.idx (.var 1) (.cst (.str "call"))), (.var 2), (.var 3)] [])]))] []), (.ifS (.cmp .eq (.var 6) (.cst (.str "for"))) [(.asg (.nm 9) (.call i__law_term 4 4 0 [.pos 0, .pos 1, .pos 2, .pos 3] [(.var 0), (.idx (.var 1) (.cst (.str "open"))), (.var 2), (.var 3)] [])), (.asg (.nm 8) (.call i__law_block 5 5 0 [.pos 0, .pos 1, .pos 2, .pos 3, .pos 4] [(.var 0), (.var 1), (.bin .add (.var 2) (.cst (.int 1))), (.var 3), (.bin .add (.var 4) (.cst (.int 1)))] [])), (.ret (.tup [(.cst (.str "for")), (.var 9), (.var 8), (.call i__law_block 5 5 0 [.pos 0, .pos 1, .pos 2, .pos 3, .pos 4] [(.var 0), (.var 1), (.var 2), (.var 3), (.bin .add (.var 4) (.cst (.int 1)))] [])]))] []), (.asg (.nm 7) (.ite (.cmp .eq (.var 6) (.cst (.str "flag"))) (.tup [(.cst (.str "flag")), (.call i__law_pick 2 2 0 [.pos 0, .pos 1] [(.var 0), (.idx (.var 1) (.cst (.str "flags")))] [])]) (.cst .non))), (.ifS (.cmp .eq (.var 6) (.cst (.str "ask"))) [(.asg (.nm 7) (.tup [(.cst (.str "ask")), (.call i__law_term 4 4 0 [.pos 0, .pos 1, .pos 2, .pos 3] [(.var 0), (.idx (.var 1) (.cst (.str "ask"))), (.var 2), (.var 3)] [])]))] []), (.asg (.nm 8) (.call i__law_block 5 5 0 [.pos 0, .pos 1, .pos 2, .pos 3, .pos 4] [(.var 0), (.var 1), (.var 2), (.var 3), (.bin .add (.var 4) (.cst (.int 1)))] [])), (.ret (.tup [(.cst (.str "if")), (.var 7), (.var 8), (.call i__law_block 5 5 0 [.pos 0, .pos 1, .pos 2, .pos 3, .pos 4] [(.var 0), (.var 1), (.var 2), (.var 3), (.bin .add (.var 4) (.cst (.int 1)))] [])]))]
/-- _law_put_in: slots 0=_law_state 1=_law_block_here 2=_law_statement_here 3=_law_spots 4=_law_one 5=_law_at 6=_law_part -/
def b__law_put_in : List CS := [(.asg (.nm 3) (.lc (.var 5) (.tp [5, 4]) [5, 4] .enu [(.var 1)] [(.cmp .inF (.idx (.var 4) (.cst (.int 0))) (.tup [(.cst (.str "if")), (.cst (.str "for"))]))])), (.ifS (.or (.cmp .eq (.var 3) (.lst [])) (.cmp .eq (.call i__law_take 2 2 0 [.pos 0, .pos 1] [(.var 0), (.cst (.int 4))] []) (.cst (.int 0)))) [(.ret (.bin .add (.tup [(.var 2)]) (.var 1)))] []), (.par 5 6 (.call i__law_pick 2 2 0 [.pos 0, .pos 1] [(.var 0), (.var 3)] []) (.bin .add (.cst (.int 2)) (.call i__law_take 2 2 0 [.pos 0, .pos 1] [(.var 0), (.cst (.int 2))] []))), (.asg (.nm 4) (.idx (.var 1) (.var 5))), (.asg (.nm 4) (.bin .add (.bin .add (.slice (.var 4) none (some (.var 6))) (.tup [(.call i__law_put_in 3 3 0 [.pos 0, .pos 1, .pos 2] [(.var 0), (.idx (.var 4) (.var 6)), (.var 2)] [])])) (.slice (.var 4) (some (.bin .add (.var 6) (.cst (.int 1)))) none))), (.ret (.bin .add (.bin .add (.slice (.var 1) none (some (.var 5))) (.tup [(.var 4)])) (.slice (.var 1) (some (.bin .add (.var 5) (.cst (.int 1)))) none)))]
/-- _law_unlike: slots 0=_law_program 1=_law_others 2=_law_behind -/
def b__law_unlike : List CS := [(.forS (.nm 2) .seq [(.var 1)] [(.ifS (.or (.eqX 3 i_Program___eq__ 2 [.pos 0, .pos 1] false (.var 0) (.var 2)) (.or (.not (.eqX 3 i_Program___eq__ 2 [.pos 0, .pos 1] true (.var 0) (.var 2))) (.or (.eqX 3 i_Program___eq__ 2 [.pos 0, .pos 1] false (.var 2) (.var 0)) (.not (.eqX 3 i_Program___eq__ 2 [.pos 0, .pos 1] true (.var 2) (.var 0)))))) [(.ret (.cst (.bl false)))] [])]), (.ret (.cst (.bl true)))]
/-- law: slots 0=_law_script 1=_law_state 2=_law_turn 3=_law_plan_here 4=_law_ahead 5=_law_others 6=_law_fresh 7=_law_bare 8=_law_trunk 9=_law_behind 10=_law_signals 11=_law_program 12=_law_same 13=_law_name_here -/
def b_law : List CS := [(.asg (.nm 1) (.call i__law_begin 1 1 0 [.pos 0] [(.var 0)] [])), (.forS (.nm 2) .rg1 [(.bin .add (.cst (.int 2)) (.bi .min2 [(.bi .len [(.var 0)]), (.cst (.int 6))]))] [(.asg (.nm 3) (.call i__law_plan 2 2 0 [.pos 0, .pos 1] [(.var 1), (.cst (.int 16))] [])), (.asg (.tp [8, 9, 10]) (.tup [(.call i__law_block 5 5 0 [.pos 0, .pos 1, .pos 2, .pos 3, .pos 4] [(.var 1), (.var 3), (.cst (.int 1)), (.lst []), (.cst (.int 1))] []), (.call i__law_block 5 5 0 [.pos 0, .pos 1, .pos 2, .pos 3, .pos 4] [(.var 1), (.var 3), (.cst (.int 0)), (.lst []), (.cst (.int 1))] []), (.idx (.var 3) (.cst (.str "flags")))])), (.par 11 12 (.make 3 i_Program___init__ 4 3 0 [.pos 0, .pos 1, .pos 2, .pos 3] [(.var 8), (.var 9), (.var 10)] []) (.make 3 i_Program___init__ 4 0 3 [.pos 0, .kw 2, .kw 1, .kw 0] [] [(.var 10), (.var 9), (.var 8)])), (.ifS (.cmp .ne (.bi .repr [(.lst [(.attr [3] "body" (.var 11)), (.attr [3] "other" (.var 11)), (.attr [2, 3] "flags" (.var 11))])]) (.bi .repr [(.lst [(.var 8), (.var 9), (.var 10)])])) [(.ret (.cst (.bl false)))] []), (.ifS (.or (.not (.eqO 3 i_Program___eq__ 2 [.pos 0, .pos 1] false (.var 11) (.var 12))) (.or (.eqO 3 i_Program___eq__ 2 [.pos 0, .pos 1] true (.var 11) (.var 12)) (.eqO 3 i_Program___eq__ 2 [.pos 0, .pos 1] true (.var 11) (.make 3 i_Program___init__ 4 2 1 [.pos 0, .pos 1, .pos 2, .kw 0] [(.var 8), (.var 9)] [(.var 10)])))) [(.ret (.cst (.bl false)))] []), (.asg (.nm 4) (.tup [(.cst (.str "emit")), (.call i__law_word 1 1 0 [.pos 0] [(.var 1)] [])])), (.asg (.nm 5) (.lst [(.make 3 i_Program___init__ 4 3 0 [.pos 0, .pos 1, .pos 2, .pos 3] [(.bin .add (.tup [(.var 4)]) (.var 8)), (.var 9), (.var 10)] []), (.make 3 i_Program___init__ 4 3 0 [.pos 0, .pos 1, .pos 2, .pos 3] [(.var 8), (.bin .add (.tup [(.var 4)]) (.var 9)), (.var 10)] [])])), (.expr (.mt .append (.var 5) [(.make 3 i_Program___init__ 4 3 0 [.pos 0, .pos 1, .pos 2, .pos 3] [(.call i__law_put_in 3 3 0 [.pos 0, .pos 1, .pos 2] [(.var 1), (.var 8), (.var 4)] []), (.var 9), (.var 10)] [])])), (.expr (.mt .append (.var 5) [(.make 3 i_Program___init__ 4 3 0 [.pos 0, .pos 1, .pos 2, .pos 3] [(.var 8), (.call i__law_put_in 3 3 0 [.pos 0, .pos 1, .pos 2] [(.var 1), (.var 9), (.var 4)] []), (.var 10)] [])])), (.asg (.nm 6) (.lc (.var 13) (.nm 13) [13] .seq [(.lst [(.cst (.str "a")), (.cst (.str "b")), (.cst (.str "c")), (.cst (.str "d"))])] [(.cmp .notInF (.var 13) (.var 10))])), (.asg (.nm 5) (.bin .add (.var 5) (.lst [(.make 3 i_Program___init__ 4 3 0 [.pos 0, .pos 1, .pos 2, .pos 3] [(.var 8), (.var 9), (.bin .add (.var 10) (.tup [(.idx (.var 6) (.cst (.int 0)))]))] []), (.cst .non), (.cst (.int 0)), (.cst (.str "x1"))]))), (.asg (.nm 5) (.bin .add (.var 5) (.lst [(.var 8), (.var 10), (.tup [(.var 8), (.var 9), (.var 10)])]))), (.ifS (.cmp .gt (.bi .len [(.var 10)]) (.cst (.int 1))) [(.expr (.mt .append (.var 5) [(.make 3 i_Program___init__ 4 3 0 [.pos 0, .pos 1, .pos 2, .pos 3] [(.var 8), (.var 9), (.bin .add (.slice (.var 10) (some (.cst (.int 1))) none) (.slice (.var 10) none (some (.cst (.int 1)))))] [])]))] []), (.ifS (.not (.call i__law_unlike 2 2 0 [.pos 0, .pos 1] [(.var 11), (.var 5)] [])) [(.ret (.cst (.bl false)))] []), (.asg (.nm 7) (.make 3 i_Program___init__ 4 1 1 [.pos 0, .pos 1, .dfl (.tup []), .kw 0] [(.tup [(.tup [(.cst (.str "emit")), (.cst (.int 1))]), (.var 4)])] [(.var 10)])), (.ifS (.cmp .ne (.lst [(.attr [3] "body" (.var 7)), (.attr [3] "other" (.var 7)), (.attr [2, 3] "flags" (.var 7))]) (.lst [(.tup [(.tup [(.cst (.str "emit")), (.cst (.int 1))]), (.var 4)]), (.tup []), (.var 10)])) [(.ret (.cst (.bl false)))] []), (.ifS (.or (.not (.eqO 3 i_Program___eq__ 2 [.pos 0, .pos 1] false (.make 3 i_Program___init__ 4 1 0 [.pos 0, .pos 1, .dfl (.tup []), .dfl (.tup [])] [(.tup [(.var 4)])] []) (.make 3 i_Program___init__ 4 3 0 [.pos 0, .pos 1, .pos 2, .pos 3] [(.tup [(.var 4)]), (.tup []), (.tup [])] []))) (.eqO 3 i_Program___eq__ 2 [.pos 0, .pos 1] true (.make 3 i_Program___init__ 4 1 0 [.pos 0, .pos 1, .dfl (.tup []), .dfl (.tup [])] [(.tup [])] []) (.make 3 i_Program___init__ 4 0 3 [.pos 0, .kw 0, .kw 1, .kw 2] [] [(.tup []), (.tup []), (.tup [])]))) [(.ret (.cst (.bl false)))] [])]), (.ret (.cst (.bl true)))]
def prog : Prog3 := [(0, ⟨1, 1, b_is_number⟩), (1, ⟨1, 2, b_is_name⟩), (2, ⟨1, 2, b_is_word⟩), (3, ⟨2, 4, b_measured⟩), (4, ⟨1, 1, b_is_value⟩), (5, ⟨1, 1, b_is_term⟩), (6, ⟨3, 3, b_may_use⟩), (7, ⟨3, 4, b_may_ask⟩), (8, ⟨1, 2, b_are_flags⟩), (9, ⟨2, 2, b_Checker___init__⟩), (10, ⟨2, 2, b_Checker_is_flag⟩), (11, ⟨5, 8, b_Checker_is_block⟩), (12, ⟨5, 7, b_Checker_is_statement⟩), (13, ⟨4, 4, b_Checker_is_question⟩), (14, ⟨4, 5, b_Program___init__⟩), (15, ⟨2, 2, b_Program___eq__⟩), (16, ⟨1, 3, b__law_begin⟩), (17, ⟨1, 6, b__law_mixed⟩), (18, ⟨2, 3, b__law_take⟩), (19, ⟨2, 2, b__law_pick⟩), (20, ⟨3, 6, b__law_name⟩), (21, ⟨2, 8, b__law_plan⟩), (22, ⟨1, 3, b__law_word⟩), (23, ⟨1, 2, b__law_height⟩), (24, ⟨3, 3, b__law_value⟩), (25, ⟨4, 8, b__law_term⟩), (26, ⟨5, 8, b__law_block⟩), (27, ⟨5, 10, b__law_statement⟩), (28, ⟨3, 7, b__law_put_in⟩), (29, ⟨2, 3, b__law_unlike⟩), (30, ⟨1, 14, b_law⟩)]
abbrev Sh (f n : Nat) (ks : List Str) (np : Nat) (g : List Src) : (Nat × Nat × List Str) × (Nat × List Src) := ((f, n, ks), (np, g))
def L : TabL where
  fn := [(("is_number" : Str), 0), (("is_name" : Str), 1), (("is_word" : Str), 2), (("measured" : Str), 3), (("is_value" : Str), 4), (("is_term" : Str), 5), (("may_use" : Str), 6), (("may_ask" : Str), 7), (("are_flags" : Str), 8), (("_law_begin" : Str), 16), (("_law_mixed" : Str), 17), (("_law_take" : Str), 18), (("_law_pick" : Str), 19), (("_law_name" : Str), 20), (("_law_plan" : Str), 21), (("_law_word" : Str), 22), (("_law_height" : Str), 23), (("_law_value" : Str), 24), (("_law_term" : Str), 25), (("_law_block" : Str), 26), (("_law_statement" : Str), 27), (("_law_put_in" : Str), 28), (("_law_unlike" : Str), 29)]
  cls := [("NoProgram", 1), ("Checker", 2), ("Program", 3)]
  glb := [("CAPITALS", (.str "ABCDEFGHIJKLMNOPQRSTUVWXYZ")), ("LETTERS", (.str "abcdefghijklmnopqrstuvwxyz")), ("MOST_DEEP", (.int 40)), ("MOST_FLAGS", (.int 40)), ("MOST_HEIGHT", (.int 4)), ("MOST_LEVEL", (.int 3)), ("MOST_SIGNS", (.int 8)), ("MOST_STATEMENTS", (.int 400)), ("SIGNS", (.str "abcdefghijklmnopqrstuvwxyz0123456789"))]
  blt := ["all", "bool", "enumerate", "int", "isinstance", "len", "list", "max", "min", "range", "repr", "set", "str", "tuple"]
  shape := [Sh 0 1 [] 1 [.pos 0], Sh 1 1 [] 1 [.pos 0], Sh 2 1 [] 1 [.pos 0], Sh 3 2 [] 2 [.pos 0, .pos 1], Sh 4 1 [] 1 [.pos 0], Sh 5 1 [] 1 [.pos 0], Sh 6 3 [] 3 [.pos 0, .pos 1, .pos 2], Sh 7 3 [] 3 [.pos 0, .pos 1, .pos 2], Sh 8 1 [] 1 [.pos 0], Sh 9 2 [] 2 [.pos 0, .pos 1], Sh 10 2 [] 2 [.pos 0, .pos 1], Sh 11 5 [] 5 [.pos 0, .pos 1, .pos 2, .pos 3, .pos 4], Sh 12 5 [] 5 [.pos 0, .pos 1, .pos 2, .pos 3, .pos 4], Sh 13 4 [] 4 [.pos 0, .pos 1, .pos 2, .pos 3], Sh 14 1 ["body", "other", "flags"] 4 [.pos 0, .kw 0, .kw 1, .kw 2], Sh 14 1 ["flags", "other", "body"] 4 [.pos 0, .kw 2, .kw 1, .kw 0], Sh 14 2 [] 4 [.pos 0, .pos 1, .dfl (.tup []), .dfl (.tup [])], Sh 14 2 ["flags"] 4 [.pos 0, .pos 1, .dfl (.tup []), .kw 0], Sh 14 3 ["flags"] 4 [.pos 0, .pos 1, .pos 2, .kw 0], Sh 14 4 [] 4 [.pos 0, .pos 1, .pos 2, .pos 3], Sh 15 2 [] 2 [.pos 0, .pos 1], Sh 16 1 [] 1 [.pos 0], Sh 17 1 [] 1 [.pos 0], Sh 18 2 [] 2 [.pos 0, .pos 1], Sh 19 2 [] 2 [.pos 0, .pos 1], Sh 20 3 [] 3 [.pos 0, .pos 1, .pos 2], Sh 21 2 [] 2 [.pos 0, .pos 1], Sh 22 1 [] 1 [.pos 0], Sh 23 1 [] 1 [.pos 0], Sh 24 3 [] 3 [.pos 0, .pos 1, .pos 2], Sh 25 4 [] 4 [.pos 0, .pos 1, .pos 2, .pos 3], Sh 26 5 [] 5 [.pos 0, .pos 1, .pos 2, .pos 3, .pos 4], Sh 27 5 [] 5 [.pos 0, .pos 1, .pos 2, .pos 3, .pos 4], Sh 28 3 [] 3 [.pos 0, .pos 1, .pos 2], Sh 29 2 [] 2 [.pos 0, .pos 1]]
  init := [(2, 9), (3, 14)]
  own := [(3, 15)]
  ownL := []
  ownB := []
  xcl := []
  xkit := []
  mth := [((2, "is_block"), 11), ((2, "is_flag"), 10), ((2, "is_question"), 13), ((2, "is_statement"), 12)]
  attr := [(2, "flags"), (2, "many"), (3, "body"), (3, "flags"), (3, "other")]
  exc := [1]
  tch := []
  gdc := [("LENGTHS", [("call", 2), ("emit", 2), ("if", 4), ("for", 4), ("break", 1), ("continue", 1), ("set", 2), ("clear", 2)])]
abbrev kitOwn : Kit := [(.inl "NoneType", .inr 3, false), (.inl "bool", .inr 3, false), (.inl "int", .inr 3, false), (.inl "str", .inr 3, false), (.inl "tuple", .inr 3, false), (.inl "list", .inr 3, false), (.inl "dict", .inr 3, false), (.inr 3, .inr 3, true), (.inr 3, .inl "bool", false), (.inr 3, .inl "int", false), (.inr 3, .inl "str", false), (.inr 3, .inl "tuple", false), (.inr 3, .inl "list", false)]
abbrev kit : Kit := kitOwn ++ kitPlain
abbrev s0 : Stmt := top 10
def d0 : DefT := ⟨0, "is_number", "is_number", s0, ["thing"], ["thing"], 60⟩
theorem ok0 : d0.ok L.tab prog = true := by decide +kernel
abbrev s1 : Stmt := top 11
def d1 : DefT := ⟨1, "is_name", "is_name", s1, ["thing", "sign"], ["thing"], 60⟩
theorem ok1 : d1.ok L.tab prog = true := by decide +kernel
abbrev s2 : Stmt := top 12
def d2 : DefT := ⟨2, "is_word", "is_word", s2, ["thing", "sign"], ["thing"], 60⟩
theorem ok2 : d2.ok L.tab prog = true := by decide +kernel
abbrev s3 : Stmt := top 13
def d3 : DefT := ⟨3, "measured", "measured", s3, ["thing", "room", "parts", "part"], ["thing", "room"], 60⟩
theorem ok3 : d3.ok L.tab prog = true := by decide +kernel
abbrev s4 : Stmt := top 14
def d4 : DefT := ⟨4, "is_value", "is_value", s4, ["thing"], ["thing"], 60⟩
theorem ok4 : d4.ok L.tab prog = true := by decide +kernel
abbrev s5 : Stmt := top 15
def d5 : DefT := ⟨5, "is_term", "is_term", s5, ["thing"], ["thing"], 60⟩
theorem ok5 : d5.ok L.tab prog = true := by decide +kernel
abbrev s6 : Stmt := top 21
def d6 : DefT := ⟨6, "may_use", "may_use", s6, ["value", "level", "called"], ["value", "level", "called"], 60⟩
theorem ok6 : d6.ok L.tab prog = true := by decide +kernel
abbrev s7 : Stmt := top 22
def d7 : DefT := ⟨7, "may_ask", "may_ask", s7, ["term", "level", "called", "part"], ["term", "level", "called"], 60⟩
theorem ok7 : d7.ok L.tab prog = true := by decide +kernel
abbrev s8 : Stmt := top 23
def d8 : DefT := ⟨8, "are_flags", "are_flags", s8, ["flags", "flag"], ["flags"], 60⟩
theorem ok8 : d8.ok L.tab prog = true := by decide +kernel
abbrev s9 : Stmt := inClass (top 24) 0
def d9 : DefT := ⟨9, "__init__", "Checker.__init__", s9, ["self", "flags"], ["self", "flags"], 60⟩
theorem ok9 : d9.ok L.tab prog = true := by decide +kernel
abbrev s10 : Stmt := inClass (top 24) 1
def d10 : DefT := ⟨10, "is_flag", "Checker.is_flag", s10, ["self", "name"], ["self", "name"], 60⟩
theorem ok10 : d10.ok L.tab prog = true := by decide +kernel
abbrev s11 : Stmt := inClass (top 24) 2
def d11 : DefT := ⟨11, "is_block", "Checker.is_block", s11, ["self", "block", "level", "called", "deep", "known", "at", "statement"], ["self", "block", "level", "called", "deep"], 60⟩
theorem ok11 : d11.ok L.tab prog = true := by decide +kernel
abbrev s12 : Stmt := inClass (top 24) 3
def d12 : DefT := ⟨12, "is_statement", "Checker.is_statement", s12, ["self", "statement", "level", "called", "deep", "word", "inner"], ["self", "statement", "level", "called", "deep"], 60⟩
theorem ok12 : d12.ok L.tab prog = true := by decide +kernel
abbrev s13 : Stmt := inClass (top 24) 4
def d13 : DefT := ⟨13, "is_question", "Checker.is_question", s13, ["self", "question", "level", "called"], ["self", "question", "level", "called"], 60⟩
theorem ok13 : d13.ok L.tab prog = true := by decide +kernel
abbrev s14 : Stmt := inClass (top 25) 0
def d14 : DefT := ⟨14, "__init__", "Program.__init__", s14, ["self", "body", "other", "flags", "checker"], ["self", "body", "other", "flags"], 60⟩
theorem ok14 : d14.ok L.tab prog = true := by decide +kernel
abbrev s15 : Stmt := inClass (top 25) 1
def d15 : DefT := ⟨15, "__eq__", "Program.__eq__", s15, ["self", "other"], ["self", "other"], 60⟩
theorem ok15 : d15.ok L.tab prog = true := by decide +kernel
abbrev s16 : Stmt := top 27
def d16 : DefT := ⟨16, "_law_begin", "_law_begin", s16, ["_law_script", "_law_great", "_law_cell"], ["_law_script"], 60⟩
theorem ok16 : d16.ok L.tab prog = true := by decide +kernel
abbrev s17 : Stmt := top 28
def d17 : DefT := ⟨17, "_law_mixed", "_law_mixed", s17, ["_law_state", "_law_turn", "_law_found", "_law_prime", "_law_blend", "_law_cell"], ["_law_state"], 60⟩
theorem ok17 : d17.ok L.tab prog = true := by decide +kernel
abbrev s18 : Stmt := top 29
def d18 : DefT := ⟨18, "_law_take", "_law_take", s18, ["_law_state", "_law_size", "_law_found"], ["_law_state", "_law_size"], 60⟩
theorem ok18 : d18.ok L.tab prog = true := by decide +kernel
abbrev s19 : Stmt := top 30
def d19 : DefT := ⟨19, "_law_pick", "_law_pick", s19, ["_law_state", "_law_some"], ["_law_state", "_law_some"], 60⟩
theorem ok19 : d19.ok L.tab prog = true := by decide +kernel
abbrev s20 : Stmt := top 31
def d20 : DefT := ⟨20, "_law_name", "_law_name", s20, ["_law_state", "_law_first", "_law_words", "_law_signs", "_law_rest", "_law_k"], ["_law_state", "_law_first", "_law_words"], 60⟩
theorem ok20 : d20.ok L.tab prog = true := by decide +kernel
abbrev s21 : Stmt := top 32
def d21 : DefT := ⟨21, "_law_plan", "_law_plan", s21, ["_law_state", "_law_room", "_law_signals", "_law_k", "_law_calls", "_law_queries", "_law_opens", "_law_name_here"], ["_law_state", "_law_room"], 60⟩
theorem ok21 : d21.ok L.tab prog = true := by decide +kernel
abbrev s22 : Stmt := top 33
def d22 : DefT := ⟨22, "_law_word", "_law_word", s22, ["_law_state", "_law_letters", "_law_k"], ["_law_state"], 60⟩
theorem ok22 : d22.ok L.tab prog = true := by decide +kernel
abbrev s23 : Stmt := top 34
def d23 : DefT := ⟨23, "_law_height", "_law_height", s23, ["_law_value_here", "_law_part"], ["_law_value_here"], 60⟩
theorem ok23 : d23.ok L.tab prog = true := by decide +kernel
abbrev s24 : Stmt := top 35
def d24 : DefT := ⟨24, "_law_value", "_law_value", s24, ["_law_state", "_law_level", "_law_called"], ["_law_state", "_law_level", "_law_called"], 60⟩
theorem ok24 : d24.ok L.tab prog = true := by decide +kernel
abbrev s25 : Stmt := top 36
def d25 : DefT := ⟨25, "_law_term", "_law_term", s25, ["_law_state", "_law_names", "_law_level", "_law_called", "_law_low", "_law_parts", "_law_one", "_law_k"], ["_law_state", "_law_names", "_law_level", "_law_called"], 60⟩
theorem ok25 : d25.ok L.tab prog = true := by decide +kernel
abbrev s26 : Stmt := top 37
def d26 : DefT := ⟨26, "_law_block", "_law_block", s26, ["_law_state", "_law_plan_here", "_law_level", "_law_called", "_law_nest", "_law_turn", "_law_found", "_law_known"], ["_law_state", "_law_plan_here", "_law_level", "_law_called", "_law_nest"], 60⟩
theorem ok26 : d26.ok L.tab prog = true := by decide +kernel
abbrev s27 : Stmt := top 38
def d27 : DefT := ⟨27, "_law_statement", "_law_statement", s27, ["_law_state", "_law_plan_here", "_law_level", "_law_called", "_law_nest", "_law_sorts", "_law_kind", "_law_question", "_law_trunk", "_law_term_here"], ["_law_state", "_law_plan_here", "_law_level", "_law_called", "_law_nest"], 60⟩
theorem ok27 : d27.ok L.tab prog = true := by decide +kernel
abbrev s28 : Stmt := top 39
def d28 : DefT := ⟨28, "_law_put_in", "_law_put_in", s28, ["_law_state", "_law_block_here", "_law_statement_here", "_law_spots", "_law_one", "_law_at", "_law_part"], ["_law_state", "_law_block_here", "_law_statement_here"], 60⟩
theorem ok28 : d28.ok L.tab prog = true := by decide +kernel
abbrev s29 : Stmt := top 40
def d29 : DefT := ⟨29, "_law_unlike", "_law_unlike", s29, ["_law_program", "_law_others", "_law_behind"], ["_law_program", "_law_others"], 60⟩
theorem ok29 : d29.ok L.tab prog = true := by decide +kernel
abbrev s30 : Stmt := top 41
def d30 : DefT := ⟨30, "law", "law", s30, ["_law_script", "_law_state", "_law_turn", "_law_plan_here", "_law_ahead", "_law_others", "_law_fresh", "_law_bare", "_law_trunk", "_law_behind", "_law_signals", "_law_program", "_law_same", "_law_name_here"], ["_law_script"], 60⟩
theorem ok30 : d30.ok L.tab prog = true := by decide +kernel
abbrev W := wpN prog kit.get
abbrev GG (n : Nat) : G3 := gN prog kit.get n
theorem GG_kit : (∀ (n : Nat) (t u : String), (GG n).kit (.inl t) (.inl u) = kitPlain.get (.inl t) (.inl u)) ∧ ∀ (t u : String), kit.get (.inl t) (.inl u) = kitPlain.get (.inl t) (.inl u) := ⟨fun _ t u => kit_app (own := kitOwn) (by decide +kernel) t u, fun t u => kit_app (own := kitOwn) (by decide +kernel) t u⟩
theorem GG_own : (∀ n : Nat, (GG n).kit (.inl "NoneType") (.inr 3) = some false) ∧ kit.get (.inl "NoneType") (.inr 3) = some false ∧ (∀ n : Nat, (GG n).kit (.inl "bool") (.inr 3) = some false) ∧ kit.get (.inl "bool") (.inr 3) = some false ∧ (∀ n : Nat, (GG n).kit (.inl "int") (.inr 3) = some false) ∧ kit.get (.inl "int") (.inr 3) = some false ∧ (∀ n : Nat, (GG n).kit (.inl "str") (.inr 3) = some false) ∧ kit.get (.inl "str") (.inr 3) = some false ∧ (∀ n : Nat, (GG n).kit (.inl "tuple") (.inr 3) = some false) ∧ kit.get (.inl "tuple") (.inr 3) = some false ∧ (∀ n : Nat, (GG n).kit (.inl "list") (.inr 3) = some false) ∧ kit.get (.inl "list") (.inr 3) = some false ∧ (∀ n : Nat, (GG n).kit (.inl "dict") (.inr 3) = some false) ∧ kit.get (.inl "dict") (.inr 3) = some false ∧ (∀ n : Nat, (GG n).kit (.inr 3) (.inr 3) = some true) ∧ kit.get (.inr 3) (.inr 3) = some true ∧ (∀ n : Nat, (GG n).kit (.inr 3) (.inl "bool") = some false) ∧ kit.get (.inr 3) (.inl "bool") = some false ∧ (∀ n : Nat, (GG n).kit (.inr 3) (.inl "int") = some false) ∧ kit.get (.inr 3) (.inl "int") = some false ∧ (∀ n : Nat, (GG n).kit (.inr 3) (.inl "str") = some false) ∧ kit.get (.inr 3) (.inl "str") = some false ∧ (∀ n : Nat, (GG n).kit (.inr 3) (.inl "tuple") = some false) ∧ kit.get (.inr 3) (.inl "tuple") = some false ∧ (∀ n : Nat, (GG n).kit (.inr 3) (.inl "list") = some false) ∧ kit.get (.inr 3) (.inl "list") = some false := ⟨fun _ => (by decide +kernel : kit.get (.inl "NoneType") (.inr 3) = some false), by decide +kernel, fun _ => (by decide +kernel : kit.get (.inl "bool") (.inr 3) = some false), by decide +kernel, fun _ => (by decide +kernel : kit.get (.inl "int") (.inr 3) = some false), by decide +kernel, fun _ => (by decide +kernel : kit.get (.inl "str") (.inr 3) = some false), by decide +kernel, fun _ => (by decide +kernel : kit.get (.inl "tuple") (.inr 3) = some false), by decide +kernel, fun _ => (by decide +kernel : kit.get (.inl "list") (.inr 3) = some false), by decide +kernel, fun _ => (by decide +kernel : kit.get (.inl "dict") (.inr 3) = some false), by decide +kernel, fun _ => (by decide +kernel : kit.get (.inr 3) (.inr 3) = some true), by decide +kernel, fun _ => (by decide +kernel : kit.get (.inr 3) (.inl "bool") = some false), by decide +kernel, fun _ => (by decide +kernel : kit.get (.inr 3) (.inl "int") = some false), by decide +kernel, fun _ => (by decide +kernel : kit.get (.inr 3) (.inl "str") = some false), by decide +kernel, fun _ => (by decide +kernel : kit.get (.inr 3) (.inl "tuple") = some false), by decide +kernel, fun _ => (by decide +kernel : kit.get (.inr 3) (.inl "list") = some false), by decide +kernel⟩
theorem GG_call (n f : Nat) : (GG n).call f = W n f := rfl
theorem GG_make (n f : Nat) : (GG (n + 1)).make f = W n f := rfl
theorem W_is_number (n : Nat) (x0 : D) (C : CH) (Q : Kv) (E : Kx) : W (n + 1) i_is_number [x0] C Q E = rdSs (GG n) (exN E) b_is_number (endN Q) [some x0] C := by
  rw [W, wpN_eq _ _ _ _ _ _ _ _ ⟨1, 1, b_is_number⟩ rfl rfl]; rfl
theorem W_is_name (n : Nat) (x0 : D) (C : CH) (Q : Kv) (E : Kx) : W (n + 1) i_is_name [x0] C Q E = rdSs (GG n) (exN E) b_is_name (endN Q) [some x0, none] C := by
  rw [W, wpN_eq _ _ _ _ _ _ _ _ ⟨1, 2, b_is_name⟩ rfl rfl]; rfl
theorem W_is_word (n : Nat) (x0 : D) (C : CH) (Q : Kv) (E : Kx) : W (n + 1) i_is_word [x0] C Q E = rdSs (GG n) (exN E) b_is_word (endN Q) [some x0, none] C := by
  rw [W, wpN_eq _ _ _ _ _ _ _ _ ⟨1, 2, b_is_word⟩ rfl rfl]; rfl
theorem W_measured (n : Nat) (x0 x1 : D) (C : CH) (Q : Kv) (E : Kx) : W (n + 1) i_measured [x0, x1] C Q E = rdSs (GG n) (exN E) b_measured (endN Q) [some x0, some x1, none, none] C := by
  rw [W, wpN_eq _ _ _ _ _ _ _ _ ⟨2, 4, b_measured⟩ rfl rfl]; rfl
theorem W_is_value (n : Nat) (x0 : D) (C : CH) (Q : Kv) (E : Kx) : W (n + 1) i_is_value [x0] C Q E = rdSs (GG n) (exN E) b_is_value (endN Q) [some x0] C := by
  rw [W, wpN_eq _ _ _ _ _ _ _ _ ⟨1, 1, b_is_value⟩ rfl rfl]; rfl
theorem W_is_term (n : Nat) (x0 : D) (C : CH) (Q : Kv) (E : Kx) : W (n + 1) i_is_term [x0] C Q E = rdSs (GG n) (exN E) b_is_term (endN Q) [some x0] C := by
  rw [W, wpN_eq _ _ _ _ _ _ _ _ ⟨1, 1, b_is_term⟩ rfl rfl]; rfl
theorem W_may_use (n : Nat) (x0 x1 x2 : D) (C : CH) (Q : Kv) (E : Kx) : W (n + 1) i_may_use [x0, x1, x2] C Q E = rdSs (GG n) (exN E) b_may_use (endN Q) [some x0, some x1, some x2] C := by
  rw [W, wpN_eq _ _ _ _ _ _ _ _ ⟨3, 3, b_may_use⟩ rfl rfl]; rfl
theorem W_may_ask (n : Nat) (x0 x1 x2 : D) (C : CH) (Q : Kv) (E : Kx) : W (n + 1) i_may_ask [x0, x1, x2] C Q E = rdSs (GG n) (exN E) b_may_ask (endN Q) [some x0, some x1, some x2, none] C := by
  rw [W, wpN_eq _ _ _ _ _ _ _ _ ⟨3, 4, b_may_ask⟩ rfl rfl]; rfl
theorem W_are_flags (n : Nat) (x0 : D) (C : CH) (Q : Kv) (E : Kx) : W (n + 1) i_are_flags [x0] C Q E = rdSs (GG n) (exN E) b_are_flags (endN Q) [some x0, none] C := by
  rw [W, wpN_eq _ _ _ _ _ _ _ _ ⟨1, 2, b_are_flags⟩ rfl rfl]; rfl
theorem W_Checker___init__ (n : Nat) (x0 x1 : D) (C : CH) (Q : Kv) (E : Kx) : W (n + 1) i_Checker___init__ [x0, x1] C Q E = rdSs (GG n) (exN E) b_Checker___init__ (endN Q) [some x0, some x1] C := by
  rw [W, wpN_eq _ _ _ _ _ _ _ _ ⟨2, 2, b_Checker___init__⟩ rfl rfl]; rfl
theorem W_Checker_is_flag (n : Nat) (x0 x1 : D) (C : CH) (Q : Kv) (E : Kx) : W (n + 1) i_Checker_is_flag [x0, x1] C Q E = rdSs (GG n) (exN E) b_Checker_is_flag (endN Q) [some x0, some x1] C := by
  rw [W, wpN_eq _ _ _ _ _ _ _ _ ⟨2, 2, b_Checker_is_flag⟩ rfl rfl]; rfl
theorem W_Checker_is_block (n : Nat) (x0 x1 x2 x3 x4 : D) (C : CH) (Q : Kv) (E : Kx) : W (n + 1) i_Checker_is_block [x0, x1, x2, x3, x4] C Q E = rdSs (GG n) (exN E) b_Checker_is_block (endN Q) [some x0, some x1, some x2, some x3, some x4, none, none, none] C := by
  rw [W, wpN_eq _ _ _ _ _ _ _ _ ⟨5, 8, b_Checker_is_block⟩ rfl rfl]; rfl
theorem W_Checker_is_statement (n : Nat) (x0 x1 x2 x3 x4 : D) (C : CH) (Q : Kv) (E : Kx) : W (n + 1) i_Checker_is_statement [x0, x1, x2, x3, x4] C Q E = rdSs (GG n) (exN E) b_Checker_is_statement (endN Q) [some x0, some x1, some x2, some x3, some x4, none, none] C := by
  rw [W, wpN_eq _ _ _ _ _ _ _ _ ⟨5, 7, b_Checker_is_statement⟩ rfl rfl]; rfl
theorem W_Checker_is_question (n : Nat) (x0 x1 x2 x3 : D) (C : CH) (Q : Kv) (E : Kx) : W (n + 1) i_Checker_is_question [x0, x1, x2, x3] C Q E = rdSs (GG n) (exN E) b_Checker_is_question (endN Q) [some x0, some x1, some x2, some x3] C := by
  rw [W, wpN_eq _ _ _ _ _ _ _ _ ⟨4, 4, b_Checker_is_question⟩ rfl rfl]; rfl
theorem W_Program___init__ (n : Nat) (x0 x1 x2 x3 : D) (C : CH) (Q : Kv) (E : Kx) : W (n + 1) i_Program___init__ [x0, x1, x2, x3] C Q E = rdSs (GG n) (exN E) b_Program___init__ (endN Q) [some x0, some x1, some x2, some x3, none] C := by
  rw [W, wpN_eq _ _ _ _ _ _ _ _ ⟨4, 5, b_Program___init__⟩ rfl rfl]; rfl
theorem W_Program___eq__ (n : Nat) (x0 x1 : D) (C : CH) (Q : Kv) (E : Kx) : W (n + 1) i_Program___eq__ [x0, x1] C Q E = rdSs (GG n) (exN E) b_Program___eq__ (endN Q) [some x0, some x1] C := by
  rw [W, wpN_eq _ _ _ _ _ _ _ _ ⟨2, 2, b_Program___eq__⟩ rfl rfl]; rfl
theorem W__law_begin (n : Nat) (x0 : D) (C : CH) (Q : Kv) (E : Kx) : W (n + 1) i__law_begin [x0] C Q E = rdSs (GG n) (exN E) b__law_begin (endN Q) [some x0, none, none] C := by
  rw [W, wpN_eq _ _ _ _ _ _ _ _ ⟨1, 3, b__law_begin⟩ rfl rfl]; rfl
theorem W__law_mixed (n : Nat) (x0 : D) (C : CH) (Q : Kv) (E : Kx) : W (n + 1) i__law_mixed [x0] C Q E = rdSs (GG n) (exN E) b__law_mixed (endN Q) [some x0, none, none, none, none, none] C := by
  rw [W, wpN_eq _ _ _ _ _ _ _ _ ⟨1, 6, b__law_mixed⟩ rfl rfl]; rfl
theorem W__law_take (n : Nat) (x0 x1 : D) (C : CH) (Q : Kv) (E : Kx) : W (n + 1) i__law_take [x0, x1] C Q E = rdSs (GG n) (exN E) b__law_take (endN Q) [some x0, some x1, none] C := by
  rw [W, wpN_eq _ _ _ _ _ _ _ _ ⟨2, 3, b__law_take⟩ rfl rfl]; rfl
theorem W__law_pick (n : Nat) (x0 x1 : D) (C : CH) (Q : Kv) (E : Kx) : W (n + 1) i__law_pick [x0, x1] C Q E = rdSs (GG n) (exN E) b__law_pick (endN Q) [some x0, some x1] C := by
  rw [W, wpN_eq _ _ _ _ _ _ _ _ ⟨2, 2, b__law_pick⟩ rfl rfl]; rfl
theorem W__law_name (n : Nat) (x0 x1 x2 : D) (C : CH) (Q : Kv) (E : Kx) : W (n + 1) i__law_name [x0, x1, x2] C Q E = rdSs (GG n) (exN E) b__law_name (endN Q) [some x0, some x1, some x2, none, none, none] C := by
  rw [W, wpN_eq _ _ _ _ _ _ _ _ ⟨3, 6, b__law_name⟩ rfl rfl]; rfl
theorem W__law_plan (n : Nat) (x0 x1 : D) (C : CH) (Q : Kv) (E : Kx) : W (n + 1) i__law_plan [x0, x1] C Q E = rdSs (GG n) (exN E) b__law_plan (endN Q) [some x0, some x1, none, none, none, none, none, none] C := by
  rw [W, wpN_eq _ _ _ _ _ _ _ _ ⟨2, 8, b__law_plan⟩ rfl rfl]; rfl
theorem W__law_word (n : Nat) (x0 : D) (C : CH) (Q : Kv) (E : Kx) : W (n + 1) i__law_word [x0] C Q E = rdSs (GG n) (exN E) b__law_word (endN Q) [some x0, none, none] C := by
  rw [W, wpN_eq _ _ _ _ _ _ _ _ ⟨1, 3, b__law_word⟩ rfl rfl]; rfl
theorem W__law_height (n : Nat) (x0 : D) (C : CH) (Q : Kv) (E : Kx) : W (n + 1) i__law_height [x0] C Q E = rdSs (GG n) (exN E) b__law_height (endN Q) [some x0, none] C := by
  rw [W, wpN_eq _ _ _ _ _ _ _ _ ⟨1, 2, b__law_height⟩ rfl rfl]; rfl
theorem W__law_value (n : Nat) (x0 x1 x2 : D) (C : CH) (Q : Kv) (E : Kx) : W (n + 1) i__law_value [x0, x1, x2] C Q E = rdSs (GG n) (exN E) b__law_value (endN Q) [some x0, some x1, some x2] C := by
  rw [W, wpN_eq _ _ _ _ _ _ _ _ ⟨3, 3, b__law_value⟩ rfl rfl]; rfl
theorem W__law_term (n : Nat) (x0 x1 x2 x3 : D) (C : CH) (Q : Kv) (E : Kx) : W (n + 1) i__law_term [x0, x1, x2, x3] C Q E = rdSs (GG n) (exN E) b__law_term (endN Q) [some x0, some x1, some x2, some x3, none, none, none, none] C := by
  rw [W, wpN_eq _ _ _ _ _ _ _ _ ⟨4, 8, b__law_term⟩ rfl rfl]; rfl
theorem W__law_block (n : Nat) (x0 x1 x2 x3 x4 : D) (C : CH) (Q : Kv) (E : Kx) : W (n + 1) i__law_block [x0, x1, x2, x3, x4] C Q E = rdSs (GG n) (exN E) b__law_block (endN Q) [some x0, some x1, some x2, some x3, some x4, none, none, none] C := by
  rw [W, wpN_eq _ _ _ _ _ _ _ _ ⟨5, 8, b__law_block⟩ rfl rfl]; rfl
theorem W__law_statement (n : Nat) (x0 x1 x2 x3 x4 : D) (C : CH) (Q : Kv) (E : Kx) : W (n + 1) i__law_statement [x0, x1, x2, x3, x4] C Q E = rdSs (GG n) (exN E) b__law_statement (endN Q) [some x0, some x1, some x2, some x3, some x4, none, none, none, none, none] C := by
  rw [W, wpN_eq _ _ _ _ _ _ _ _ ⟨5, 10, b__law_statement⟩ rfl rfl]; rfl
theorem W__law_put_in (n : Nat) (x0 x1 x2 : D) (C : CH) (Q : Kv) (E : Kx) : W (n + 1) i__law_put_in [x0, x1, x2] C Q E = rdSs (GG n) (exN E) b__law_put_in (endN Q) [some x0, some x1, some x2, none, none, none, none] C := by
  rw [W, wpN_eq _ _ _ _ _ _ _ _ ⟨3, 7, b__law_put_in⟩ rfl rfl]; rfl
theorem W__law_unlike (n : Nat) (x0 x1 : D) (C : CH) (Q : Kv) (E : Kx) : W (n + 1) i__law_unlike [x0, x1] C Q E = rdSs (GG n) (exN E) b__law_unlike (endN Q) [some x0, some x1, none] C := by
  rw [W, wpN_eq _ _ _ _ _ _ _ _ ⟨2, 3, b__law_unlike⟩ rfl rfl]; rfl
theorem W_law (n : Nat) (x0 : D) (C : CH) (Q : Kv) (E : Kx) : W (n + 1) i_law [x0] C Q E = rdSs (GG n) (exN E) b_law (endN Q) [some x0, none, none, none, none, none, none, none, none, none, none, none, none, none] C := by
  rw [W, wpN_eq _ _ _ _ _ _ _ _ ⟨1, 14, b_law⟩ rfl rfl]; rfl
end My

namespace My
open PySem L3
local macro_rules | `(tactic| simp_arith [$t,*]) => `(tactic| simp only [rdSs_nil, rdS, rdE, rdT, rdA, rdLs, rdIfs, rdO, sNext, sRet, sRetN, sIf, sDrop, sAsg, sPar, sPar3, sSet, sBreak, sCont, sRaise, cAndV, cOrV, cNotV, cAnd, cOr, cNot, cTst, cIf, cUn, cBin, cList, cNil, cCons, cVar, cC, cChain, cMt, cSl, cPart, cNoPart, cCall, cArgs, endN, exN, semB, semC, semBI, semMI, semIK, tyMI, hT, bindT, setAll, L3.CT.slots, oIsi, oNeg, oAddA_int, oAddA_str, oAddA_tup, oI2_int, oMulA_int, oMulA_tup, oMulA_str, oIxA_tup, oIxA_rls, oIxA_str, oSl_tup, oSl_str, oEqN_int, oEqN_bl, oInF_str2, atI_zero, atI_one, atI_two, oLen, oInt, oAbs, oIs, isNon, oTup, oInS, gath, L3.Src.get, Option.map, List.getD_cons_zero, List.getD_cons_succ, SqC_tup, SqC_rls, SqC_ref, SqC_str, SqC_int, LsC_iff, tyC_non, tyC_bl, tyC_int, tyC_str, tyC_tup, cup_same, List.getElem?_cons_zero, List.getElem?_cons_succ, List.set_cons_zero, List.set_cons_succ, List.length_cons, List.length_nil, List.map_cons, List.map_nil, List.zip_cons_cons, Option.some.injEq, L3.D.bl.injEq, L3.D.int.injEq, L3.D.str.injEq, L3.D.tup.injEq, L3.D.rls.injEq, L3.D.ref.injEq, List.cons.injEq, L3.CO.lst.injEq, L3.CO.dic.injEq, reduceCtorEq, exists_eq_left, exists_eq_left', exists_eq, exists_eq', and_true, true_and, and_false, false_and, or_false, false_or, or_true, true_or, exists_false, exists_const, ite_true, ite_false, if_true, if_false, Bool.not_true, Bool.not_false, Bool.true_eq_false, Bool.false_eq_true, id_eq, eq_self, eq_self_iff_true, and_self, or_self, exists_and_left, exists_and_right, Nat.zero_add, Nat.add_eq, forall_const, sl_lt0, sl_le0, sl_lt1, sl_le1, sl_lt2, sl_le2, sl_lt3, sl_le3, sl_lt4, sl_le4, sl_lt5, sl_le5, sl_lt6, sl_le6, sl_lt7, sl_le7, sl_lt8, sl_le8, sl_lt9, sl_le9, sl_lt10, sl_le10, sl_lt11, sl_le11, sl_lt12, sl_le12, Nat.reduceAdd, Nat.reduceLeDiff, Int.reduceLE, Int.reduceLT, Int.cast_ofNat_Int, decide_true, decide_false, k_NoneType_int, k_bool_int, k_int_int, k_str_int, k_tuple_int, k_list_int, k_dict_int, k_NoneType_bool, k_bool_bool, k_int_bool, k_str_bool, k_tuple_bool, k_list_bool, k_dict_bool, k_NoneType_str, k_bool_str, k_int_str, k_str_str, k_tuple_str, k_list_str, k_dict_str, k_NoneType_tuple, k_bool_tuple, k_int_tuple, k_str_tuple, k_tuple_tuple, k_list_tuple, k_dict_tuple, k_NoneType_list, k_bool_list, k_int_list, k_str_list, k_tuple_list, k_list_list, k_dict_list, $t,*])
local macro_rules | `(tactic| simp_arith! [$t,*]) => `(tactic| simp only [rdSs, rdS, rdE, rdT, rdA, rdLs, rdIfs, rdO, sSeq, sNext, sRet, sRetN, sIf, sDrop, sAsg, sPar, sPar3, sSet, sBreak, sCont, sRaise, cAndV, cOrV, cNotV, cAnd, cOr, cNot, cTst, cIf, cUn, cBin, cList, cNil, cCons, cVar, cC, cChain, cMt, cSl, cPart, cNoPart, cCall, cArgs, gN, endN, exN, semB, semC, semBI, semMI, semIK, tyMI, hT, bindT, setAll, L3.CT.slots, oIsi, oNeg, oAddA_int, oAddA_str, oAddA_tup, oI2_int, oMulA_int, oMulA_tup, oMulA_str, oIxA_tup, oIxA_rls, oIxA_str, oSl_tup, oSl_str, oEqN_int, oEqN_bl, oInF_str2, atI_zero, atI_one, atI_two, oLen, oInt, oAbs, oIs, isNon, oTup, oInS, gath, L3.Src.get, Option.map, List.getD_cons_zero, List.getD_cons_succ, SqC_tup, SqC_rls, SqC_ref, SqC_str, SqC_int, LsC_iff, tyC_non, tyC_bl, tyC_int, tyC_str, tyC_tup, cup_same, List.getElem?_cons_zero, List.getElem?_cons_succ, List.set_cons_zero, List.set_cons_succ, List.length_cons, List.length_nil, List.map_cons, List.map_nil, List.zip_cons_cons, Option.some.injEq, L3.D.bl.injEq, L3.D.int.injEq, L3.D.str.injEq, L3.D.tup.injEq, L3.D.rls.injEq, L3.D.ref.injEq, List.cons.injEq, L3.CO.lst.injEq, L3.CO.dic.injEq, reduceCtorEq, exists_eq_left, exists_eq_left', exists_eq, exists_eq', and_true, true_and, and_false, false_and, or_false, false_or, or_true, true_or, exists_false, exists_const, ite_true, ite_false, if_true, if_false, Bool.not_true, Bool.not_false, Bool.true_eq_false, Bool.false_eq_true, id_eq, eq_self, eq_self_iff_true, and_self, or_self, exists_and_left, exists_and_right, Nat.zero_add, Nat.add_eq, forall_const, sl_lt0, sl_le0, sl_lt1, sl_le1, sl_lt2, sl_le2, sl_lt3, sl_le3, sl_lt4, sl_le4, sl_lt5, sl_le5, sl_lt6, sl_le6, sl_lt7, sl_le7, sl_lt8, sl_le8, sl_lt9, sl_le9, sl_lt10, sl_le10, sl_lt11, sl_le11, sl_lt12, sl_le12, Nat.reduceAdd, Nat.reduceLeDiff, Int.reduceLE, Int.reduceLT, Int.cast_ofNat_Int, decide_true, decide_false, k_NoneType_int, k_bool_int, k_int_int, k_str_int, k_tuple_int, k_list_int, k_dict_int, k_NoneType_bool, k_bool_bool, k_int_bool, k_str_bool, k_tuple_bool, k_list_bool, k_dict_bool, k_NoneType_str, k_bool_str, k_int_str, k_str_str, k_tuple_str, k_list_str, k_dict_str, k_NoneType_tuple, k_bool_tuple, k_int_tuple, k_str_tuple, k_tuple_tuple, k_list_tuple, k_dict_tuple, k_NoneType_list, k_bool_list, k_int_list, k_str_list, k_tuple_list, k_list_list, k_dict_list, $t,*])
def isNum : T → Bool
  | .int _ => true
  | _ => false
theorem is_number_ok {n : Nat} {t : T} {C : CH} {Q : Kv} {E : Kx} (hq : Q (.bl (isNum t)) C) : W (n+1) i_is_number [t.d] C Q E := by
  rw [W_is_number]
  unfold b_is_number
  cases t <;> simp_arith! [T.d, GG_kit] <;> exact ⟨C, Sub.refl, hq⟩
theorem is_number_ref {n : Nat} {p : Addr} {xs : List D} {C : CH} {Q : Kv} {E : Kx} (h : C p = some (.lst xs)) (hq : Q (.bl false) C) : W (n+1) i_is_number [.ref p] C Q E := by
  rw [W_is_number]
  unfold b_is_number
  simp_arith! [GG_kit, tyC_lst h]
  exact ⟨C, Sub.refl, hq⟩
def LET : Str := "abcdefghijklmnopqrstuvwxyz"
def SIG : Str := "abcdefghijklmnopqrstuvwxyz0123456789"
def isNm (z : Str) : Bool := match z.cps.toList with
  | [] => false
  | c :: r => decide (z.length ≤ 8) && (decide (c ∈ LET.cps.toList) && (c :: r).all fun c => decide (c ∈ SIG.cps.toList))
def isName : T → Bool
  | .str z => isNm z
  | _ => false
theorem is_name_ok {n : Nat} {t : T} {C : CH} {Q : Kv} {E : Kx} (hq : Q (.bl (isName t)) C) (hz : ∀ z, t = .str z → z.length ≤ sizeLine) : W (n+1) i_is_name [t.d] C Q E := by
  rw [W_is_name]
  unfold b_is_name
  cases t with
  | str z =>
    simp_arith! [T.d, GG_kit]
    refine ⟨hz z rfl, ?_⟩
    have hn := len_cps z
    replace hq : Q (.bl (isNm z)) C := hq
    unfold isNm at hq
    cases hz' : z.cps.toList with
    | nil =>
      rw [hz'] at hn hq
      simp only [hn, List.length_nil]
      exact ⟨C, Sub.refl, hq⟩
    | cons c r =>
      rw [hz'] at hq
      have h1 : (1 : Int) ≤ (z.length : Int) := by rw [hn, hz', List.length_cons]; omega
      rw [if_pos (decide_eq_true h1)]
      by_cases h8 : z.length ≤ 8
      · have h8' : ((z.length : Nat) : Int) ≤ 8 := by omega
        rw [if_neg (by simp [h8'])]
        refine ⟨hz z rfl, c, atI_zero, c, rfl, ?_⟩
        by_cases hc : c ∈ LET.cps.toList
        · have hc' : c ∈ (Str.ofString "abcdefghijklmnopqrstuvwxyz").cps.toList := hc
          rw [if_neg (by simp [hc'])]
          refine ⟨_, rfl, z, rfl, ?_⟩
          refine lcL_map (fun d => match d with | .str y => .bl (decide (y.cps.toList.head?.getD 0 ∈ SIG.cps.toList)) | _ => .non) trivial _ [] (fun d hd => ?_) ?_ ?_
          · obtain ⟨a, ha, rfl⟩ := List.mem_map.mp hd
            refine ⟨_, rfl, fun Q' hQ => ?_⟩
            simp_arith! [wipe3]
            exact ⟨a, rfl, by simpa [SIG] using hQ⟩
          · rw [List.length_map, ← len_cps]; simp only [List.length_nil]; have := hz z rfl; omega
          · intro p hp
            rw [List.nil_append, List.map_map]
            refine oAll_new (bs := z.cps.toList.map fun c => decide (c ∈ SIG.cps.toList)) (by rw [List.map_map]; rfl) ⟨C, sub_new hp, ?_⟩
            rw [hz']
            simpa [h8, hc, List.all_map, Function.comp_def] using hq
        · have hc' : ¬ c ∈ (Str.ofString "abcdefghijklmnopqrstuvwxyz").cps.toList := hc
          rw [if_pos (by simp [hc'])]
          refine ⟨C, Sub.refl, ?_⟩
          simpa [hc] using hq
      · have h8' : ¬ ((z.length : Nat) : Int) ≤ 8 := by omega
        rw [if_pos (by simp [h8'])]
        refine ⟨C, Sub.refl, ?_⟩
        simpa [h8] using hq
  | _ => simp_arith! [T.d, GG_kit] <;> exact ⟨C, Sub.refl, hq⟩
/-- the height and the greatest level of a value -/
def both2 (x y : Option (Int × Int)) : Option (Int × Int) := match x, y with
  | some a, some b => some (1 + (if b.1 > a.1 then b.1 else a.1), if b.2 > a.2 then b.2 else a.2)
  | _, _ => none
def meas : Nat → T → Option (Int × Int)
  | _, .int i => if 1 ≤ i ∧ i ≤ 3 then some (0, i) else none
  | r + 1, .tup [h, a] => if isName h = true then (meas r a).map fun q => (1 + q.1, q.2) else none
  | r + 1, .tup [h, a, b] => if isName h = true then both2 (meas r a) (meas r b) else none
  | _, _ => none
def measD : Option (Int × Int) → D
  | none => .non
  | some q => .tup [.int q.1, .int q.2]
/-- no text in it is too long -/
def T.small : T → Prop := fun t => ∀ z, t = .str z → z.length ≤ sizeLine
mutual
def okT : T → Bool
  | .str z => decide (z.length ≤ sizeLine) && PyData.strOk z
  | .tup xs => okTs xs
  | _ => true
def okTs : List T → Bool
  | [] => true
  | x :: xs => okT x && okTs xs
end
/-- one item of «None in parts» -/
def measP : Option (Int × Int) → PyData
  | none => .none
  | some q => .tuple [.int q.1, .int q.2]
theorem measSnap (C : CH) : ∀ m, Snap C (measD m) (measP m)
  | none => .non
  | some q => .tup (.cons (.int _) (.cons (.int _) .nil))
theorem noneIn1 {C : CH} {p : Addr} {m : Option (Int × Int)} {Q : Kv} (h : C p = some (.lst [measD m])) (q : Q (.bl m.isNone) C) : oInD id .non (.ref p) C Q :=
  ⟨p, .none, _, [measP m], rfl, h, .non, .cons (measSnap C m) .nil, rfl, by cases m <;> rfl, by cases m <;> exact q⟩
theorem noneIn2 {C : CH} {p : Addr} {m k : Option (Int × Int)} {Q : Kv} (h : C p = some (.lst [measD m, measD k])) (q : Q (.bl (m.isNone || k.isNone)) C) : oInD id .non (.ref p) C Q :=
  ⟨p, .none, _, [measP m, measP k], rfl, h, .non, .cons (measSnap C m) (.cons (measSnap C k) .nil), rfl, by cases m <;> cases k <;> rfl, by cases m <;> cases k <;> exact q⟩
theorem ok_len {z : Str} (h : okT (.str z) = true) : z.length ≤ sizeLine := by
  simp only [okT, Bool.and_eq_true, decide_eq_true_eq] at h
  exact h.1
theorem measured_ok : ∀ (r n : Nat) (t : T) (C : CH) (Q : Kv) (E : Kx), okT t = true → Q (measD (meas r t)) C → W (n + r + 2) i_measured [t.d, .int r] C Q E := by
  intro r
  induction r with
  | zero =>
    intro n t C Q E ho hq
    rw [W_measured]
    unfold b_measured
    simp_arith! [GG_call]
    refine is_number_ok ?_
    cases t with
    | int i =>
      simp_arith! [isNum, T.d]
      by_cases h1 : 1 ≤ i <;> by_cases h3 : i ≤ 3 <;> simp only [h1, h3, decide_true, decide_false, if_true, Bool.false_eq_true, if_false] <;> simp only [meas, h1, h3, measD, and_self, and_true, and_false, if_true, if_false] at hq
      · exact ⟨C, Sub.refl, hq⟩
      all_goals exact ⟨C, Sub.refl, hq⟩
    | _ => simp_arith! [isNum]; simp only [meas, measD] at hq; exact ⟨C, Sub.refl, hq⟩
  | succ r ih =>
    intro n t C Q E ho hq
    rw [W_measured]
    unfold b_measured
    simp_arith! [GG_call]
    refine is_number_ok ?_
    have hr : (((r + 1 : Nat) : Int) = 0) = False := by simp; omega
    have e1 : ((r + 1 : Nat) : Int) - 1 = r := by omega
    cases t with
    | int i =>
      simp_arith! [isNum, T.d]
      by_cases h1 : 1 ≤ i <;> by_cases h3 : i ≤ 3 <;> simp only [h1, h3, decide_true, decide_false, if_true, Bool.false_eq_true, if_false] <;> simp only [meas, h1, h3, measD, and_self, and_true, and_false, if_true, if_false] at hq
      · exact ⟨C, Sub.refl, hq⟩
      all_goals exact ⟨C, Sub.refl, hq⟩
    | tup xs =>
      simp_arith! [isNum, T.d, GG_kit, GG_call, hr, decide_false, T.ds_length]
      match xs, ho, hq with
      | [], ho, hq => exact ⟨C, Sub.refl, hq⟩
      | [_], ho, hq => exact ⟨C, Sub.refl, hq⟩
      | _ :: _ :: _ :: _ :: l, ho, hq =>
        rw [if_pos (by simp; omega), if_pos (by simp; omega)]
        exact ⟨C, Sub.refl, hq⟩
      | [h, a], ho, hq =>
        simp_arith! [T.ds]
        simp only [okT, okTs, Bool.and_true, Bool.and_eq_true] at ho
        refine is_name_ok ?_ (fun z e => by rw [e] at ho; exact ok_len ho.1)
        simp only [meas] at hq
        by_cases hn : isName h = true
        · rw [if_pos hn] at hq
          simp_arith! [hn, cLc, iSeq, lcL, wipe3, cutD_tail, cYes, GG_call, e1]
          refine ih n a C _ _ ho.2 ?_
          intro p hp
          refine noneIn1 cup_same ?_
          cases hm : meas r a with
          | none =>
            rw [hm] at hq
            simp_arith! [Option.isNone]
            exact ⟨C, sub_new hp, hq⟩
          | some q =>
            rw [hm] at hq
            simp_arith! [Option.isNone, cLc, iSeq, lcL, wipe3, cYes, List.nil_append, measD]
            intro p1 hp1
            refine oMaxL1 cup_same ?_
            simp_arith! [cup_old hp1 cup_same, cLc, iSeq, lcL, wipe3, cYes, List.nil_append]
            intro p2 hp2
            refine oMaxL1 cup_same ?_
            exact ⟨C, ((sub_new hp).trans (sub_new hp1)).trans (sub_new hp2), hq⟩
        · rw [if_neg hn] at hq
          simp_arith! [hn]
          exact ⟨C, Sub.refl, hq⟩
      | [h, a, b], ho, hq =>
        simp_arith! [T.ds]
        simp only [okT, okTs, Bool.and_true, Bool.and_eq_true] at ho
        refine is_name_ok ?_ (fun z e => by rw [e] at ho; exact ok_len ho.1)
        simp only [meas] at hq
        by_cases hn : isName h = true
        · rw [if_pos hn] at hq
          simp_arith! [hn, cLc, iSeq, lcL, wipe3, cutD_tail, cYes, GG_call, e1, List.nil_append, List.cons_append]
          refine ih n a C _ _ ho.2.1 ?_
          refine ih n b C _ _ ho.2.2 ?_
          intro p hp
          refine noneIn2 cup_same ?_
          cases hm : meas r a with
          | none =>
            rw [hm] at hq
            simp_arith! [Option.isNone, Bool.true_or]
            exact ⟨C, sub_new hp, hq⟩
          | some q =>
            cases hk : meas r b with
            | none =>
              rw [hm, hk] at hq
              simp_arith! [Option.isNone, Bool.or_true]
              exact ⟨C, sub_new hp, hq⟩
            | some k =>
              rw [hm, hk] at hq
              simp_arith! [Option.isNone, Bool.or_self, cLc, iSeq, lcL, wipe3, cYes, List.nil_append, List.cons_append, measD]
              intro p1 hp1
              refine oMaxL2 cup_same ?_
              simp_arith! [cup_old hp1 cup_same, cLc, iSeq, lcL, wipe3, cYes, List.nil_append, List.cons_append]
              intro p2 hp2
              refine oMaxL2 cup_same ?_
              exact ⟨C, ((sub_new hp).trans (sub_new hp1)).trans (sub_new hp2), hq⟩
        · rw [if_neg hn] at hq
          simp_arith! [hn]
          exact ⟨C, Sub.refl, hq⟩
    | _ => simp_arith! [isNum, T.d, GG_kit, hr, decide_false]; exact ⟨C, Sub.refl, hq⟩

theorem is_value_ok {n : Nat} {t : T} {C : CH} {Q : Kv} {E : Kx} (ho : okT t = true) (hq : Q (.bl (meas 4 t).isSome) C) : W (n + 7) i_is_value [t.d] C Q E := by
  rw [W_is_value]
  unfold b_is_value
  simp_arith! [GG_call]
  refine measured_ok 4 n t C _ _ ho ?_
  cases h : meas 4 t with
  | none => rw [h] at hq; exact ⟨C, Sub.refl, hq⟩
  | some q => rw [h] at hq; exact ⟨C, Sub.refl, hq⟩
def isTup : T → Bool
  | .tup _ => true
  | _ => false
theorem is_term_ok {n : Nat} {t : T} {C : CH} {Q : Kv} {E : Kx} (ho : okT t = true) (hq : Q (.bl (isTup t && (meas 4 t).isSome)) C) : W (n + 8) i_is_term [t.d] C Q E := by
  rw [W_is_term]
  unfold b_is_term
  cases t with
  | tup xs =>
    simp_arith! [T.d, GG_kit, GG_call]
    refine is_value_ok (n := n) (t := .tup xs) ho ?_
    exact ⟨C, Sub.refl, hq⟩
  | _ => simp_arith! [T.d, GG_kit]; exact ⟨C, Sub.refl, hq⟩

/-! what the package says of conditions, where «called» is a number -/
def numOf : T → Int
  | .int i => i
  | _ => 0
/-- what has been called: all terms with items up to a level, or the terms of a list -/
inductive Kn where
  | num (k : Int) | lst (vs : List T)
instance : Coe Int Kn := ⟨Kn.num⟩
def inT (v : T) (vs : List T) : Bool := (T.pl vs).any fun z => PyData.eqv z v.p
def Kn.may (q : Int) (v : T) : Kn → Bool
  | .num k => decide (q ≤ k)
  | .lst vs => inT v vs
/-- the value that stands for it -/
inductive KnAt (C : CH) : Kn → D → Prop
  | num (k : Int) : KnAt C (.num k) (.int k)
  | lst {p : Addr} {vs : List T} : C p = some (.lst (T.ds vs)) → (∀ t ∈ vs, okT t = true ∧ t.p.depth ≤ 60) → KnAt C (.lst vs) (.ref p)
theorem KnAt.sub {C C' : CH} {k : Kn} {d : D} (h : KnAt C k d) (s : Sub C C') : KnAt C' k d := by
  cases h with
  | num k => exact .num k
  | lst h h2 => exact .lst (s _ _ h) h2
def mayUse (v : T) (level : Int) (called : Kn) : Bool := match meas 4 v with
  | none => false
  | some q => if isNum v = true then decide (numOf v ≤ level) else called.may q.2 v
theorem meas_depth : ∀ (r : Nat) (v : T) (q : Int × Int), meas r v = some q → v.p.depth ≤ r
  | r, .int i, q, _ => by simp [T.p, PyData.depth]
  | r + 1, .tup [h, a], q, e => by
    simp only [meas] at e
    split at e
    · rename_i hn
      obtain ⟨q', e', _⟩ := Option.map_eq_some_iff.mp e
      have := meas_depth r a q' e'
      cases h <;> first | (simp [isName] at hn; done) | (simp only [T.p, T.pl, PyData.depth, PyData.depthAll]; omega)
    · cases e
  | r + 1, .tup [h, a, b], q, e => by
    simp only [meas] at e
    split at e
    · rename_i hn
      cases ea : meas r a with
      | none => rw [ea] at e; simp [both2] at e
      | some qa =>
        cases eb : meas r b with
        | none => rw [ea, eb] at e; simp [both2] at e
        | some qb =>
          have := meas_depth r a qa ea
          have := meas_depth r b qb eb
          cases h <;> first | (simp [isName] at hn; done) | (simp only [T.p, T.pl, PyData.depth, PyData.depthAll]; omega)
    · cases e
  | 0, .tup _, _, e => by simp [meas] at e
  | _ + 1, .tup [], _, e => by simp [meas] at e
  | _ + 1, .tup [_], _, e => by simp [meas] at e
  | _ + 1, .tup (_ :: _ :: _ :: _ :: _), _, e => by simp [meas] at e
  | 0, .non, _, e => by simp [meas] at e
  | 0, .bl _, _, e => by simp [meas] at e
  | 0, .str _, _, e => by simp [meas] at e
  | _ + 1, .non, _, e => by simp [meas] at e
  | _ + 1, .bl _, _, e => by simp [meas] at e
  | _ + 1, .str _, _, e => by simp [meas] at e
mutual
theorem canLay_ok : ∀ t : T, okT t = true → t.p.canLay0 = true
  | .non, _ => rfl
  | .bl _, _ => rfl
  | .int _, _ => rfl
  | .str z, h => by
    simp only [okT, Bool.and_eq_true, decide_eq_true_eq] at h
    exact h.2
  | .tup xs, h => canLays_ok xs h
theorem canLays_ok : ∀ ts : List T, okTs ts = true → PyData.canLayAll0 (T.pl ts) = true
  | [], _ => rfl
  | t :: ts, h => by
    simp only [okTs, Bool.and_eq_true] at h
    simp only [T.pl, PyData.canLayAll0, Bool.and_eq_true]
    exact ⟨canLay_ok t h.1, canLays_ok ts h.2⟩
end
theorem depths_le {m : Nat} : ∀ {ts : List T}, (∀ t ∈ ts, okT t = true ∧ t.p.depth ≤ m) → PyData.canLayAll0 (T.pl ts) = true ∧ PyData.depthAll (T.pl ts) ≤ m
  | [], _ => ⟨rfl, Nat.zero_le _⟩
  | t :: ts, h => by
    obtain ⟨h1, h2⟩ := depths_le (ts := ts) fun x hx => h x (List.mem_cons_of_mem _ hx)
    obtain ⟨k1, k2⟩ := h t List.mem_cons_self
    constructor
    · simp only [T.pl, PyData.canLayAll0, Bool.and_eq_true]
      exact ⟨canLay_ok t k1, h1⟩
    · simp only [T.pl, PyData.depthAll]; omega
/-- value in called -/
theorem inD_ts {f : Bool → Bool} {C : CH} {p : Addr} {v : T} {vs : List T} {Q : Kv} (h : C p = some (.lst (T.ds vs))) (hv : ∀ t ∈ vs, okT t = true ∧ t.p.depth ≤ 60) (ho : okT v = true) (hd : v.p.depth ≤ 60) (q : Q (.bl (f (inT v vs))) C) : oInD f v.d (.ref p) C Q := by
  obtain ⟨h1, h2⟩ := depths_le hv
  refine ⟨p, v.p, _, T.pl vs, rfl, h, v.snap C, T.snaps C vs, ?_, ?_, q⟩
  · simp only [SeqAt.shaped, Bool.and_eq_true, decide_eq_true_eq]
    exact ⟨canLay_ok v ho, by omega⟩
  · simp only [SeqAt.shaped, Bool.and_eq_true, decide_eq_true_eq]
    exact ⟨h1, by show PyData.depthAll _ + 1 ≤ 64; omega⟩
theorem okTs_mem : ∀ {xs : List T} {x : T}, okTs xs = true → x ∈ xs → okT x = true
  | y :: ys, x, h, m => by
    simp only [okTs, Bool.and_eq_true] at h
    rcases List.mem_cons.mp m with e | m
    · rw [e]; exact h.1
    · exact okTs_mem h.2 m
mutual
def size : T → Nat
  | .tup xs => 1 + sizes xs
  | _ => 1
def sizes : List T → Nat
  | [] => 0
  | x :: xs => size x + sizes xs
end

/-! words -/
def CAP : Str := "ABCDEFGHIJKLMNOPQRSTUVWXYZ"
def isWd (z : Str) : Bool := decide (1 ≤ z.length) && (decide (z.length ≤ 8) && z.cps.toList.all fun c => decide (c ∈ CAP.cps.toList))
def isWord : T → Bool
  | .str z => isWd z
  | _ => false
theorem is_word_ok {n : Nat} {t : T} {C : CH} {Q : Kv} {E : Kx} (ho : okT t = true) (hq : Q (.bl (isWord t)) C) : W (n+1) i_is_word [t.d] C Q E := by
  rw [W_is_word]
  unfold b_is_word
  cases t with
  | str z =>
    have hz := ok_len ho
    simp_arith! [T.d, GG_kit]
    refine ⟨hz, ?_⟩
    have hn := len_cps z
    replace hq : Q (.bl (isWd z)) C := hq
    unfold isWd at hq
    by_cases h1 : 1 ≤ z.length
    · have h1' : (1 : Int) ≤ (z.length : Int) := by omega
      rw [if_pos (decide_eq_true h1')]
      by_cases h8 : z.length ≤ 8
      · have h8' : ((z.length : Nat) : Int) ≤ 8 := by omega
        rw [if_neg (by simp [h8'])]
        simp_arith! [cLc, iTxt]
        refine lcL_map (fun d => match d with | .str y => .bl (decide (y.cps.toList.head?.getD 0 ∈ CAP.cps.toList)) | _ => .non) trivial _ [] (fun d hd => ?_) ?_ ?_
        · obtain ⟨a, ha, rfl⟩ := List.mem_map.mp hd
          refine ⟨_, rfl, fun Q' hQ => ?_⟩
          simp_arith! [wipe3]
          exact ⟨a, rfl, by simpa [CAP] using hQ⟩
        · rw [List.length_map, ← len_cps]; simp only [List.length_nil]; omega
        · intro p hp
          rw [List.nil_append, List.map_map]
          refine oAll_new (bs := z.cps.toList.map fun c => decide (c ∈ CAP.cps.toList)) (by rw [List.map_map]; rfl) ⟨C, sub_new hp, ?_⟩
          simpa [h8, h1, List.all_map, Function.comp_def] using hq
      · have h8' : ¬ ((z.length : Nat) : Int) ≤ 8 := by omega
        rw [if_pos (by simp [h8'])]
        refine ⟨C, Sub.refl, ?_⟩
        simpa [h8] using hq
    · have h1' : ¬ (1 : Int) ≤ (z.length : Int) := by omega
      rw [if_neg (by simp [h1'])]
      try simp_arith! []
      refine ⟨C, Sub.refl, ?_⟩
      simpa [h1] using hq
  | _ => simp_arith! [T.d, GG_kit] <;> exact ⟨C, Sub.refl, hq⟩

/-! programs, as trees, and when they are accepted -/
inductive Qu where
  | ask (v : T) | flag (v : T)
inductive St1 where
  | call (v : T) | emit (v : T) | iff (q : Qu) (a b : List St1) | forr (v : T) (a b : List St1) | brk | cont | set (v : T) | clear (v : T)
def Qu.t : Qu → T
  | .ask v => .tup [.str "ask", v]
  | .flag v => .tup [.str "flag", v]
mutual
def St1.t : St1 → T
  | .call v => .tup [.str "call", v]
  | .emit v => .tup [.str "emit", v]
  | .iff q a b => .tup [.str "if", q.t, .tup (blT a), .tup (blT b)]
  | .forr v a b => .tup [.str "for", v, .tup (blT a), .tup (blT b)]
  | .brk => .tup [.str "break"]
  | .cont => .tup [.str "continue"]
  | .set v => .tup [.str "set", v]
  | .clear v => .tup [.str "clear", v]
def blT : List St1 → List T
  | [] => []
  | s :: r => s.t :: blT r
end
mutual
/-- how deep blocks are within it -/
def St1.dp : St1 → Nat
  | .iff _ a b => max (blDp a) (blDp b)
  | .forr _ a b => max (blDp a) (blDp b)
  | _ => 0
def blDp : List St1 → Nat
  | [] => 1
  | s :: r => max (s.dp + 1) (blDp r)
end
def useP (v : T) (level : Int) (vs : List T) : Bool := match v with
  | .int i => decide (1 ≤ i) && decide (i ≤ level)
  | v => (meas 4 v).isSome && inT v vs
def askP (v : T) (level : Int) (vs : List T) : Bool := match v with
  | .tup (h :: xs) => (meas 4 (.tup (h :: xs))).isSome && xs.all fun x => useP x level vs
  | _ => false
def flagP (fl : List Str) (v : T) : Bool := match v with
  | .str z => isName (.str z) && fl.any fun x => decide (x = z)
  | _ => false
def quP (fl : List Str) (q : Qu) (level : Int) (vs : List T) : Bool := match q with
  | .ask v => askP v level vs
  | .flag v => flagP fl v
def isEnd : St1 → Bool
  | .brk => true
  | .cont => true
  | _ => false
def nextK (vs : List T) : St1 → List T
  | .call v => vs ++ [v]
  | _ => vs
mutual
/-- the number of statements behind it, where it is accepted -/
def stP (fl : List Str) : St1 → Int → List T → Int → Int → Option Int
  | .call v, lv, vs, _, m => if askP v lv vs then some m else none
  | .emit v, lv, vs, _, m => if isWord v || useP v lv vs then some m else none
  | .set v, _, _, _, m => if flagP fl v then some m else none
  | .clear v, _, _, _, m => if flagP fl v then some m else none
  | .brk, _, _, _, m => some m
  | .cont, _, _, _, m => some m
  | .iff q a b, lv, vs, dp, m => if quP fl q lv vs then (blP fl a lv vs (dp + 1) m).bind fun m1 => blP fl b lv vs (dp + 1) m1 else none
  | .forr v a b, lv, vs, dp, m => if askP v lv vs then (blP fl a (lv + 1) vs (dp + 1) m).bind fun m1 => blP fl b lv vs (dp + 1) m1 else none
def blP (fl : List Str) (b : List St1) (lv : Int) (vs : List T) (dp : Int) (m : Int) : Option Int :=
  if 40 < dp ∨ 3 < lv then none else if 400 < m + b.length then none else loP fl b lv vs dp (m + b.length)
def loP (fl : List Str) : List St1 → Int → List T → Int → Int → Option Int
  | [], _, _, _, m => some m
  | s :: r, lv, vs, dp, m => (stP fl s lv vs dp m).bind fun m1 => if isEnd s ∧ (lv = 0 ∨ r ≠ []) then none else loP fl r lv (nextK vs s) dp m1
end

/-! programs: what may be used and asked, flags, questions -/
def TkT (v : T) : Prop := okT v = true ∧ ∀ xs, v = .tup xs → xs.length ≤ 1000
section
variable {n : Nat} {v : T} {lv : Int} {vs : List T} {pc : Addr} {C : CH} {Q : Kv} {E : Kx}
theorem useP_not (h : isNum v = false) : useP v lv vs = ((meas 4 v).isSome && inT v vs) := by
  cases v with
  | int i => cases h
  | _ => rfl
theorem use_ok (hp : C pc = some (.lst (T.ds vs))) (hv : ∀ t ∈ vs, okT t = true ∧ t.p.depth ≤ 60) (ho : okT v = true) (hq : Q (.bl (useP v lv vs)) C) : W (n + 8) i_may_use [v.d, .int lv, .ref pc] C Q E := by
  rw [W_may_use]
  unfold b_may_use
  rw [rdSs_cons]
  simp_arith [GG_call]
  refine is_number_ok (n := n + 6) ?_
  cases hn : isNum v with
  | true =>
    cases v with
    | int i =>
      refine ⟨true, rfl, ?_⟩
      simp only [if_true]
      rw [rdSs_cons]
      simp_arith [T.d]
      by_cases h1 : 1 ≤ i
      · simp only [h1, decide_true, if_true]
        exact ⟨C, Sub.refl, by simpa [useP, h1] using hq⟩
      · simp only [h1, decide_false, Bool.false_eq_true, if_false]
        exact ⟨C, Sub.refl, by simpa [useP, h1] using hq⟩
    | _ => cases hn
  | false =>
    rw [useP_not hn] at hq
    refine ⟨false, rfl, ?_⟩
    simp only [Bool.false_eq_true, if_false]
    rw [rdSs_cons]
    simp_arith [GG_call]
    refine is_value_ok (n := n) ho ?_
    refine ⟨_, rfl, ?_⟩
    cases hm : meas 4 v with
    | none =>
      rw [hm] at hq
      exact ⟨C, Sub.refl, hq⟩
    | some q =>
      rw [hm] at hq
      have := meas_depth 4 v q hm
      simp only [Option.isSome, if_true]
      refine inD_ts (f := id) hp hv ho (by omega) ?_
      exact ⟨C, Sub.refl, hq⟩
theorem ask_ok (hp : C pc = some (.lst (T.ds vs))) (hv : ∀ t ∈ vs, okT t = true ∧ t.p.depth ≤ 60) (ht : TkT v) (hq : ∀ C', Sub C C' → Q (.bl (askP v lv vs)) C') : W (n + 9) i_may_ask [v.d, .int lv, .ref pc] C Q E := by
  obtain ⟨ho, hl⟩ := ht
  have hsl : 1000000 ≤ sizeLine := by decide
  rw [W_may_ask]
  unfold b_may_ask
  rw [rdSs_cons]
  simp_arith [GG_call]
  refine is_term_ok (n := n) ho ?_
  refine ⟨_, rfl, ?_⟩
  cases v with
  | tup xs =>
    have hx := hl xs rfl
    cases xs with
    | nil => exact ⟨C, Sub.refl, hq C Sub.refl⟩
    | cons h xs =>
      cases hm : (meas 4 (.tup (h :: xs))).isSome with
      | false =>
        refine ⟨C, Sub.refl, ?_⟩
        have := hq C Sub.refl
        simp only [askP, hm, Bool.false_and] at this
        exact this
      | true =>
        simp only [isTup, Bool.true_and, if_true]
        simp_arith [T.d, T.ds, cLc, iSeq, cutD_tail, GG_call]
        have hok : ∀ x ∈ xs, okT x = true := fun x hx => okTs_mem (xs := h :: xs) ho (List.mem_cons_of_mem _ hx)
        refine lcL_T (fun t => .bl (useP t lv vs)) trivial xs (fun t ht => ⟨_, rfl, fun Q' hQ => ?_⟩) (by simp only [List.length_cons] at hx; omega) ?_
        · simp_arith! [wipe3, GG_call]
          exact use_ok (n := n) hp hv (hok t ht) hQ
        intro p hp'
        refine oAll_new (bs := xs.map fun t => useP t lv vs) (by rw [List.map_map]; rfl) ?_
        refine ⟨_, Sub.refl, ?_⟩
        have := hq _ (sub_new (o := .lst (xs.map fun t => D.bl (useP t lv vs))) hp')
        simp only [askP, hm, Bool.true_and] at this
        simpa [List.all_map, Function.comp_def] using this
  | _ => exact ⟨C, Sub.refl, hq C Sub.refl⟩
abbrev CkO (fl : List Str) (m : Int) : CO := .ins c_Checker [("flags", .tup (fl.map D.str)), ("many", .int m)]
theorem in_strT {f : Bool → Bool} {z : Str} {xs : List Str} {C : CH} {Q : Kv} (h : Q (.bl (f (xs.any fun x => decide (x = z)))) C) : oInF f (.str z) (.tup (xs.map D.str)) C Q := by
  refine ⟨_, SqC_tup.mpr rfl, rfl, ?_, ?_⟩
  · rw [List.all_map]; exact List.all_eq_true.mpr fun _ _ => rfl
  · have e : L2.inV (toV (.str z)) ((xs.map D.str).map toV) = xs.any fun x => decide (x = z) := by
      unfold L2.inV
      rw [List.any_map, List.any_map]
      refine congrArg (fun g => List.any xs g) (funext fun x => ?_)
      show L2.eqV (.str x) (.str z) = _
      by_cases hx : x = z
      · subst hx; simp [L2.eqV]
      · simp [L2.eqV, hx]
    rw [e]; exact h
theorem is_flag_ok {fl : List Str} {m : Int} {ck : Addr} (hc : C ck = some (CkO fl m)) (ho : okT v = true) (hq : Q (.bl (flagP fl v)) C) : W (n + 3) i_Checker_is_flag [.ref ck, v.d] C Q E := by
  rw [W_Checker_is_flag]
  unfold b_Checker_is_flag
  rw [rdSs_cons]
  simp_arith [GG_call]
  refine is_name_ok (n := n + 1) ?_ (fun z e => by rw [e] at ho; exact ok_len ho)
  refine ⟨_, rfl, ?_⟩
  cases v with
  | str z =>
    cases hn : isName (.str z) with
    | false =>
      simp only [Bool.false_eq_true, if_false]
      simp only [flagP, hn, Bool.false_and] at hq
      exact ⟨C, Sub.refl, hq⟩
    | true =>
      simp only [if_true]
      simp_arith [cAttr]
      refine ⟨_, _, hc, by simp, _, rfl, ?_⟩
      refine in_strT ?_
      simp only [flagP, hn, Bool.true_and] at hq
      exact ⟨C, Sub.refl, hq⟩
  | _ => exact ⟨C, Sub.refl, hq⟩
def Qu.ok : Qu → Prop
  | .ask v => TkT v
  | .flag v => okT v = true
theorem sw_ask : PyData.strOk (Str.ofString "ask") = true := by decide +kernel
theorem sw_flag : PyData.strOk (Str.ofString "flag") = true := by decide +kernel
theorem is_question_ok {fl : List Str} {m : Int} {ck : Addr} {q : Qu} (hp : C pc = some (.lst (T.ds vs))) (hv : ∀ t ∈ vs, okT t = true ∧ t.p.depth ≤ 60) (hc : C ck = some (CkO fl m)) (ho : q.ok) (hq : ∀ C', Sub C C' → Q (.bl (quP fl q lv vs)) C') :
    W (n + 10) i_Checker_is_question [.ref ck, q.t.d, .int lv, .ref pc] C Q E := by
  rw [W_Checker_is_question]
  unfold b_Checker_is_question
  rw [rdSs_cons]
  cases q with
  | ask v =>
    simp_arith [Qu.t, T.d, T.ds, GG_kit]
    rw [rdSs_cons]
    simp_arith [oEqN_strI sw_ask sw_flag]
    rw [if_neg (by decide), rdSs_cons]
    simp_arith [oEqN_strI sw_ask sw_ask, decide_true, GG_call]
    exact ask_ok (n := n) hp hv ho fun C' s => ⟨C', Sub.refl, hq C' s⟩
  | flag v =>
    simp_arith [Qu.t, T.d, T.ds, GG_kit]
    rw [rdSs_cons]
    simp_arith [oEqN_strI sw_flag sw_flag, decide_true]
    rw [rdSs_cons]
    simp_arith [cMeth, GG_call]
    refine ⟨_, hc, rfl, ?_⟩
    exact is_flag_ok (n := n + 6) hc ho ⟨C, Sub.refl, hq C Sub.refl⟩
end

/-! names by their signs -/
theorem joinL_nil : ∀ cs : List Nat, TL.joinL [] (cs.map fun c => [c]) = cs
  | [] => rfl
  | [c] => rfl
  | c :: d :: r => by
    show [c] ++ ([] ++ TL.joinL [] ((d :: r).map fun c => [c])) = _
    rw [joinL_nil (d :: r)]
    rfl
theorem join_chars (cs : List Nat) : (Txt.join (Str.ofString "") (cs.map fun c => (⟨#[c]⟩ : Str))).cps.toList = cs := by
  rw [TL.join_eq]
  have := TL.tl_join (Str.ofString "") (cs.map fun c => (⟨#[c]⟩ : Str))
  rw [List.map_map] at this
  exact this.trans (joinL_nil cs)
def goodNm (z : Str) : Prop := isNm z = true ∧ z.length ≤ 8 ∧ PyData.strOk z = true
theorem let_sig : ∀ c ∈ LET.cps.toList, c ∈ SIG.cps.toList := by decide +kernel
theorem sig_small : ∀ c ∈ SIG.cps.toList, c < 1114112 := by decide +kernel
theorem good_chars {z : Str} {c : Nat} {cs : List Nat} (h : z.cps.toList = c :: cs) (hc : c ∈ LET.cps.toList) (hs : ∀ x ∈ cs, x ∈ SIG.cps.toList) (hl : cs.length ≤ 7) : goodNm z := by
  have hz : z.length = cs.length + 1 := by rw [len_cps, h]; rfl
  refine ⟨?_, by omega, ?_⟩
  · unfold isNm
    rw [h]
    simp only [Bool.and_eq_true, decide_eq_true_eq, List.all_eq_true]
    refine ⟨by omega, hc, fun x hx => ?_⟩
    rcases List.mem_cons.mp hx with e | hx
    · rw [e]; exact let_sig _ hc
    · exact hs x hx
  · show z.cps.all (· < 0x110000) = true
    rw [← Array.all_toList, h, List.all_eq_true]
    intro x hx
    rcases List.mem_cons.mp hx with e | hx
    · rw [e]; exact decide_eq_true (sig_small _ (let_sig _ hc))
    · exact decide_eq_true (sig_small _ (hs x hx))

/-! ### values -/
inductive Vv where
  | item (i : Int) | app1 (z : Str) (a : Vv) | app2 (z : Str) (a b : Vv)
def Vv.t : Vv → T
  | .item i => .int i
  | .app1 z a => .tup [.str z, a.t]
  | .app2 z a b => .tup [.str z, a.t, b.t]
def Vv.h : Vv → Int
  | .item _ => 0
  | .app1 _ a => 1 + a.h
  | .app2 _ a b => 1 + (if b.h > a.h then b.h else a.h)
def Vv.top : Vv → Int
  | .item i => i
  | .app1 _ a => a.top
  | .app2 _ a b => if b.top > a.top then b.top else a.top
def Vv.good : Vv → Prop
  | .item i => 1 ≤ i
  | .app1 z a => goodNm z ∧ a.good
  | .app2 z a b => goodNm z ∧ a.good ∧ b.good
def Vv.size : Vv → Nat
  | .item _ => 1
  | .app1 _ a => 1 + a.size
  | .app2 _ a b => 1 + a.size + b.size
theorem Vv.h_nonneg : ∀ v : Vv, 0 ≤ v.h
  | .item _ => Int.le_refl _
  | .app1 _ a => by have := a.h_nonneg; simp only [Vv.h]; omega
  | .app2 _ a b => by have := a.h_nonneg; have := b.h_nonneg; simp only [Vv.h]; split <;> omega
theorem meas_vv : ∀ (r : Nat) (v : Vv), v.good → v.h ≤ r → v.top ≤ 3 → meas r v.t = some (v.h, v.top)
  | r, .item i, g, hh, ht => by
    simp only [Vv.good, Vv.top] at g ht
    cases r <;> simp [Vv.t, meas, g, ht, Vv.h, Vv.top]
  | 0, .app1 z a, g, hh, ht => by have := a.h_nonneg; simp only [Vv.h] at hh; omega
  | 0, .app2 z a b, g, hh, ht => by have := a.h_nonneg; have := b.h_nonneg; simp only [Vv.h] at hh; split at hh <;> omega
  | r + 1, .app1 z a, g, hh, ht => by
    simp only [Vv.h] at hh
    have e := meas_vv r a g.2 (by omega) ht
    have hn : isName (.str z) = true := g.1.1
    simp only [Vv.t, meas, hn, if_true, e, Option.map, Vv.h, Vv.top]
  | r + 1, .app2 z a b, g, hh, ht => by
    have ha : a.h ≤ r := by simp only [Vv.h] at hh; split at hh <;> omega
    have hb : b.h ≤ r := by simp only [Vv.h] at hh; split at hh <;> omega
    have ta : a.top ≤ 3 := by simp only [Vv.top] at ht; split at ht <;> omega
    have tb : b.top ≤ 3 := by simp only [Vv.top] at ht; split at ht <;> omega
    have e1 := meas_vv r a g.2.1 ha ta
    have e2 := meas_vv r b g.2.2 hb tb
    have hn : isName (.str z) = true := g.1.1
    simp only [Vv.t, meas, hn, if_true, e1, e2, both2, Vv.h, Vv.top]
theorem ok_nm {z : Str} (h : goodNm z) : okT (.str z) = true := by
  simp only [okT, Bool.and_eq_true, decide_eq_true_eq]
  have : 8 ≤ sizeLine := by decide
  exact ⟨by have := h.2.1; omega, h.2.2⟩
theorem ok_vv : ∀ v : Vv, v.good → okT v.t = true ∧ (v.t.p.depth : Int) ≤ v.h ∧ size v.t ≤ 2 * v.size
  | .item i, _ => ⟨rfl, by simp [Vv.t, T.p, PyData.depth, Vv.h], by simp [Vv.t, My.size, Vv.size]⟩
  | .app1 z a, g => by
    obtain ⟨h1, h2, h3⟩ := ok_vv a g.2
    have h0 := ok_nm g.1
    refine ⟨?_, ?_, ?_⟩
    · simp only [Vv.t, okT, okTs, Bool.and_true] at *
      rw [h0, h1]; rfl
    · simp only [Vv.t, T.p, T.pl, PyData.depth, PyData.depthAll, Vv.h]; omega
    · simp only [Vv.t, My.size, sizes, Vv.size]; omega
  | .app2 z a b, g => by
    obtain ⟨h1, h2, h3⟩ := ok_vv a g.2.1
    obtain ⟨k1, k2, k3⟩ := ok_vv b g.2.2
    have h0 := ok_nm g.1
    refine ⟨?_, ?_, ?_⟩
    · simp only [Vv.t, okT, okTs, Bool.and_true] at *
      rw [h0, h1, k1]; rfl
    · simp only [Vv.t, T.p, T.pl, PyData.depth, PyData.depthAll, Vv.h]; split <;> omega
    · simp only [Vv.t, My.size, sizes, Vv.size]; omega
theorem vv_size : ∀ (r : Nat) (v : Vv), v.h ≤ r → v.size + 1 ≤ 2 ^ (r + 1)
  | r, .item _, _ => by
    have : 2 ^ 1 ≤ 2 ^ (r + 1) := Nat.pow_le_pow_right (by decide) (by omega)
    simp only [Vv.size]; omega
  | 0, .app1 z a, hh => by have := a.h_nonneg; simp only [Vv.h] at hh; omega
  | 0, .app2 z a b, hh => by have := a.h_nonneg; have := b.h_nonneg; simp only [Vv.h] at hh; split at hh <;> omega
  | r + 1, .app1 z a, hh => by
    simp only [Vv.h] at hh
    have := vv_size r a (by omega)
    have e : 2 ^ (r + 1 + 1) = 2 ^ (r + 1) + 2 ^ (r + 1) := by rw [Nat.pow_succ]; omega
    have : 2 ^ 1 ≤ 2 ^ (r + 1) := Nat.pow_le_pow_right (by decide) (by omega)
    simp only [Vv.size]; omega
  | r + 1, .app2 z a b, hh => by
    have ha : a.h ≤ r := by simp only [Vv.h] at hh; split at hh <;> omega
    have hb : b.h ≤ r := by simp only [Vv.h] at hh; split at hh <;> omega
    have := vv_size r a ha
    have := vv_size r b hb
    have e : 2 ^ (r + 1 + 1) = 2 ^ (r + 1) + 2 ^ (r + 1) := by rw [Nat.pow_succ]; omega
    simp only [Vv.size]; omega
mutual
theorem eqv_refl : ∀ t : T, PyData.eqv t.p t.p = true
  | .non => rfl
  | .bl b => by simp [T.p, PyData.eqv]
  | .int i => by simp [T.p, PyData.eqv]
  | .str z => by simp [T.p, PyData.eqv]
  | .tup xs => by simp only [T.p, PyData.eqv]; exact eqvs_refl xs
theorem eqvs_refl : ∀ ts : List T, PyData.eqvAll (T.pl ts) (T.pl ts) = true
  | [] => rfl
  | t :: ts => by simp only [T.pl, PyData.eqvAll, eqv_refl t, eqvs_refl ts, Bool.and_self]
end
theorem inT_mem {v : T} : ∀ {vs : List T}, v ∈ vs → inT v vs = true
  | u :: us, h => by
    unfold inT
    simp only [T.pl, List.any_cons, Bool.or_eq_true]
    rcases List.mem_cons.mp h with e | h
    · left; rw [e]; exact eqv_refl u
    · right; exact inT_mem h

/-- a list of data against the empty list -/
theorem deep_ts : ∀ ts : List T, (∀ t ∈ ts, okT t = true ∧ t.p.depth ≤ 300) → PyData.canLayAll0 (T.pl ts) = true ∧ PyData.depthAll (T.pl ts) ≤ 300
  | [], _ => ⟨rfl, Nat.zero_le _⟩
  | t :: ts, h => by
    obtain ⟨h1, h2⟩ := deep_ts ts fun x hx => h x (List.mem_cons_of_mem _ hx)
    obtain ⟨k1, k2⟩ := h t List.mem_cons_self
    constructor
    · simp only [T.pl, PyData.canLayAll0, Bool.and_eq_true]
      exact ⟨canLay_ok t k1, h1⟩
    · simp only [T.pl, PyData.depthAll]; omega
theorem ts_ne {C : CH} {p r : Addr} {ts : List T} {Q : Kv} (ok : ∀ t ∈ ts, okT t = true ∧ t.p.depth ≤ 300) (h : C p = some (.lst (T.ds ts))) (h2 : C r = some (.lst [])) (q : Q (.bl (!ts.isEmpty)) C) : oEqN not (.ref p) (.ref r) C Q := by
  obtain ⟨d1, d2⟩ := deep_ts ts ok
  refine ⟨.list (T.pl ts), .list [], .lst h (T.snaps C ts), .lst h2 .nil, ?_, by decide, ?_⟩
  · have e : (PyData.list (T.pl ts)).depth ≤ 350 := by
      show PyData.depthAll _ + 1 ≤ 350
      omega
    unfold deepOk
    rw [decide_eq_true e, Bool.and_true]
    exact d1
  · cases ts with
    | nil => exact q
    | cons j js => exact q
theorem atI_last {α : Type} {xs : List α} (h : xs ≠ []) : L2.atI xs (-1) = some (xs.getLast h) := by
  unfold L2.atI
  have hl : 0 < xs.length := List.length_pos_iff.mpr h
  have e : L2.ixN xs.length (-1) = some (xs.length - 1) := by
    unfold L2.ixN
    simp
    omega
  rw [e]
  show xs[xs.length - 1]? = _
  rw [List.getElem?_eq_getElem (by omega), List.getLast_eq_getElem]

/-! programs: values and terms that may be used -/
theorem wd_chars {z : Str} (h1 : 1 ≤ z.length) (h8 : z.length ≤ 8) (hc : ∀ c ∈ z.cps.toList, c ∈ CAP.cps.toList) : isWd z = true ∧ okT (.str z) = true := by
  have hcap : ∀ c ∈ CAP.cps.toList, c < 1114112 := by decide +kernel
  have hsl : 1000000 ≤ sizeLine := by decide
  constructor
  · unfold isWd
    rw [decide_eq_true h1, decide_eq_true h8]
    simp only [Bool.true_and, List.all_eq_true, decide_eq_true_eq]
    exact hc
  · simp only [okT, Bool.and_eq_true, decide_eq_true_eq]
    refine ⟨by omega, ?_⟩
    show z.cps.all (· < 0x110000) = true
    rw [← Array.all_toList, List.all_eq_true]
    exact fun x hx => decide_eq_true (hcap x (hc x hx))
def Vv.app : Vv → Bool
  | .item _ => false
  | _ => true
/-- terms that have been called -/
structure Terms (vs : List Vv) : Prop where
  good : ∀ v ∈ vs, v.good ∧ v.h ≤ 4 ∧ v.top ≤ 3 ∧ v.app = true
  len : vs.length ≤ 1000
def vds (vs : List Vv) : List D := T.ds (vs.map Vv.t)
theorem vds_map (vs : List Vv) : vds vs = vs.map fun v => v.t.d := by
  unfold vds
  rw [T.ds_map, List.map_map]
  rfl
theorem Terms.ok {vs : List Vv} (h : Terms vs) : ∀ t ∈ vs.map Vv.t, okT t = true ∧ t.p.depth ≤ 60 := fun t ht => by
  obtain ⟨v, hv, rfl⟩ := List.mem_map.mp ht
  obtain ⟨g, hh, _⟩ := h.good v hv
  obtain ⟨h1, h2, _⟩ := ok_vv v g
  exact ⟨h1, by omega⟩
/-- a value that may be used -/
structure UseU (v : Vv) (lv : Int) (vs : List T) : Prop where
  good : v.good
  h : v.h ≤ 4
  top : v.top ≤ 3
  use : useP v.t lv vs = true
/-- a term that may be asked, called, opened -/
structure FitU (v : Vv) (lv : Int) (vs : List T) : Prop where
  good : v.good
  h : v.h ≤ 4
  top : v.top ≤ 3
  fit : askP v.t lv vs = true
  app : v.app = true
theorem useP_app {v : Vv} {lv : Int} {vs : List T} (g : v.good) (h : v.h ≤ 4) (t : v.top ≤ 3) (a : v.app = true) : useP v.t lv vs = inT v.t vs := by
  rw [useP_not (by cases v <;> first | rfl | cases a), meas_vv 4 v g h t]
  rfl
theorem useP_item {i lv : Int} {vs : List T} : useP (Vv.item i).t lv vs = (decide (1 ≤ i) && decide (i ≤ lv)) := rfl
theorem Terms.use {vs : List Vv} (hv : Terms vs) {v : Vv} {lv : Int} (m : v ∈ vs) : UseU v lv (vs.map Vv.t) := by
  obtain ⟨g1, g2, g3, g4⟩ := hv.good v m
  exact ⟨g1, g2, g3, by rw [useP_app g1 g2 g3 g4]; exact inT_mem (List.mem_map.mpr ⟨v, m, rfl⟩)⟩
theorem use_item {i lv : Int} {vs : List T} (i1 : 1 ≤ i) (i2 : i ≤ lv) (l3 : lv ≤ 3) : UseU (.item i) lv vs :=
  ⟨i1, by simp [Vv.h], by simp only [Vv.top]; omega, by rw [useP_item]; simp [i1, i2]⟩
theorem fit_app1 {z : Str} {a : Vv} {lv : Int} {vs : List T} (gz : goodNm z) (ha : UseU a lv vs) (h3 : a.h ≤ 3) : FitU (.app1 z a) lv vs := by
  have h : (Vv.app1 z a).h ≤ 4 := by simp only [Vv.h]; omega
  refine ⟨⟨gz, ha.good⟩, h, ha.top, ?_, rfl⟩
  have e := meas_vv 4 (.app1 z a) ⟨gz, ha.good⟩ h ha.top
  simp only [Vv.t] at e ⊢
  simp only [askP, e, Option.isSome, List.all_cons, ha.use, List.all_nil, Bool.and_self]
theorem fit_app2 {z : Str} {a b : Vv} {lv : Int} {vs : List T} (gz : goodNm z) (ha : UseU a lv vs) (hb : UseU b lv vs) (h3 : a.h ≤ 3) (k3 : b.h ≤ 3) : FitU (.app2 z a b) lv vs := by
  have h : (Vv.app2 z a b).h ≤ 4 := by simp only [Vv.h]; split <;> omega
  have t : (Vv.app2 z a b).top ≤ 3 := by have := ha.top; have := hb.top; simp only [Vv.top]; split <;> omega
  refine ⟨⟨gz, ha.good, hb.good⟩, h, t, ?_, rfl⟩
  have e := meas_vv 4 (.app2 z a b) ⟨gz, ha.good, hb.good⟩ h t
  simp only [Vv.t] at e ⊢
  simp only [askP, e, Option.isSome, List.all_cons, ha.use, hb.use, List.all_nil, Bool.and_self]
structure FlOk (fl : List Str) : Prop where
  good : ∀ z ∈ fl, goodNm z
  nd : fl.Nodup

/-! programs: Checker.is_block, is_statement -/
def KeepX (ck : Addr) (C C' : CH) : Prop := ∀ a u, a ≠ ck → C a = some u → C' a = some u
theorem KeepX.refl {ck : Addr} {C : CH} : KeepX ck C C := fun _ _ _ h => h
theorem KeepX.trans {ck : Addr} {C C' C'' : CH} (h : KeepX ck C C') (k : KeepX ck C' C'') : KeepX ck C C'' := fun a u n e => k a u n (h a u n e)
theorem KeepX.sub {ck : Addr} {C C' : CH} (h : Sub C C') : KeepX ck C C' := fun a u _ e => h a u e
theorem KeepX.put {ck : Addr} {C : CH} {o : CO} : KeepX ck C (cup C ck o) := fun a u n e => by rw [cup_ne n]; exact e
mutual
/-- its terms and names are such that they can be looked at -/
def St1.ok : St1 → Prop
  | .call v => TkT v
  | .emit v => TkT v
  | .iff q a b => q.ok ∧ (blOk a ∧ a.length ≤ 1000) ∧ blOk b ∧ b.length ≤ 1000
  | .forr v a b => TkT v ∧ (blOk a ∧ a.length ≤ 1000) ∧ blOk b ∧ b.length ≤ 1000
  | .set v => okT v = true
  | .clear v => okT v = true
  | _ => True
def blOk : List St1 → Prop
  | [] => True
  | s :: r => s.ok ∧ blOk r
end
theorem blT_len : ∀ b : List St1, (blT b).length = b.length
  | [] => rfl
  | s :: r => by simp only [blT, List.length_cons, blT_len r]
/-- blocks of at most so many blocks within one another are looked at rightly -/
def BlkOk (fl : List Str) (d : Nat) : Prop := ∀ (b : List St1) (n : Nat) (lv dp m : Int) (vs : List T) (pc ck : Addr) (C : CH) (Q : Kv) (E : Kx), blDp b ≤ d → blOk b → b.length ≤ 1000 → C ck = some (CkO fl m) → C pc = some (.lst (T.ds vs)) → vs.length + 1000 * d ≤ 1000000 → (∀ t ∈ vs, okT t = true ∧ t.p.depth ≤ 60) → pc ≠ ck →
  (∀ C' m', KeepX ck C C' → blP fl b lv vs dp m = some m' → C' ck = some (CkO fl m') → Q (.bl true) C') → (∀ C', KeepX ck C C' → blP fl b lv vs dp m = none → Q (.bl false) C') →
  W (n + 2 * d + 12) i_Checker_is_block [.ref ck, .tup (T.ds (blT b)), .int lv, .ref pc, .int dp] C Q E
theorem sw_call : PyData.strOk (Str.ofString "call") = true := by decide +kernel
theorem sw_emit : PyData.strOk (Str.ofString "emit") = true := by decide +kernel
theorem sw_if : PyData.strOk (Str.ofString "if") = true := by decide +kernel
theorem sw_for : PyData.strOk (Str.ofString "for") = true := by decide +kernel
theorem sw_set : PyData.strOk (Str.ofString "set") = true := by decide +kernel
theorem sw_clear : PyData.strOk (Str.ofString "clear") = true := by decide +kernel
theorem sw_break : PyData.strOk (Str.ofString "break") = true := by decide +kernel
theorem sw_continue : PyData.strOk (Str.ofString "continue") = true := by decide +kernel
section
variable {fl : List Str} {n d : Nat} {lv dp m : Int} {vs : List T} {pc ck : Addr} {C : CH} {Q : Kv} {E : Kx}
theorem statement_ok (ih : BlkOk fl d) {s : St1} (hd : s.dp ≤ d) (ok : s.ok) (hc : C ck = some (CkO fl m)) (hp : C pc = some (.lst (T.ds vs))) (hl : vs.length + 1000 * d ≤ 1000000) (hv : ∀ t ∈ vs, okT t = true ∧ t.p.depth ≤ 60) (hne : pc ≠ ck)
    (hq : ∀ C' m', KeepX ck C C' → stP fl s lv vs dp m = some m' → C' ck = some (CkO fl m') → Q (.bl true) C') (hn : ∀ C', KeepX ck C C' → stP fl s lv vs dp m = none → Q (.bl false) C') :
    W (n + 2 * d + 13) i_Checker_is_statement [.ref ck, s.t.d, .int lv, .ref pc, .int dp] C Q E := by
  rw [W_Checker_is_statement]
  unfold b_Checker_is_statement
  rw [rdSs_cons]
  cases s with
  | call v =>
    simp_arith [St1.t, T.d, T.ds, GG_kit]
    rw [if_neg (by decide), rdSs_cons]
    simp_arith []
    rw [rdSs_cons]
    simp_arith [cGetW]
    refine ⟨2, by decide +kernel, ?_⟩
    rw [if_neg (by decide), rdSs_cons]
    simp_arith [oEqN_strI sw_call sw_call, decide_true]
    rw [rdSs_cons]
    simp_arith [GG_call]
    refine ask_ok (n := n + 2 * d + 3) hp hv ok fun C' s' => ⟨C', Sub.refl, ?_⟩
    cases h : askP v lv vs with
    | true => exact hq C' m (.sub s') (by simp [stP, h]) (s' _ _ hc)
    | false => exact hn C' (.sub s') (by simp [stP, h])
  | emit v =>
    simp_arith [St1.t, T.d, T.ds, GG_kit]
    rw [if_neg (by decide), rdSs_cons]
    simp_arith []
    rw [rdSs_cons]
    simp_arith [cGetW]
    refine ⟨2, by decide +kernel, ?_⟩
    rw [if_neg (by decide), rdSs_cons]
    simp_arith [oEqN_strI sw_emit sw_call]
    rw [if_neg (by decide), rdSs_cons]
    simp_arith [oEqN_strI sw_emit sw_emit, decide_true]
    rw [rdSs_cons]
    simp_arith [GG_call]
    refine is_word_ok (n := n + 2 * d + 11) ok.1 ?_
    refine ⟨_, rfl, ?_⟩
    cases hw : isWord v with
    | true =>
      simp only [if_true]
      exact ⟨C, Sub.refl, hq C m .refl (by simp [stP, hw]) hc⟩
    | false =>
      simp only [Bool.false_eq_true, if_false]
      refine use_ok (n := n + 2 * d + 4) hp hv ok.1 ⟨C, Sub.refl, ?_⟩
      cases h : useP v lv vs with
      | true => exact hq C m .refl (by simp [stP, hw, h]) hc
      | false => exact hn C .refl (by simp [stP, hw, h])
  | set v =>
    simp_arith [St1.t, T.d, T.ds, GG_kit]
    rw [if_neg (by decide), rdSs_cons]
    simp_arith []
    rw [rdSs_cons]
    simp_arith [cGetW]
    refine ⟨2, by decide +kernel, ?_⟩
    rw [if_neg (by decide), rdSs_cons]
    simp_arith [oEqN_strI sw_set sw_call]
    rw [if_neg (by decide), rdSs_cons]
    simp_arith [oEqN_strI sw_set sw_emit]
    rw [if_neg (by decide), rdSs_cons]
    simp_arith []
    rw [if_pos (by decide), rdSs_cons]
    simp_arith [cMeth, GG_call]
    refine ⟨_, hc, rfl, ?_⟩
    refine is_flag_ok (n := n + 2 * d + 9) hc ok ⟨C, Sub.refl, ?_⟩
    cases h : flagP fl v with
    | true => exact hq C m .refl (by simp [stP, h]) hc
    | false => exact hn C .refl (by simp [stP, h])
  | clear v =>
    simp_arith [St1.t, T.d, T.ds, GG_kit]
    rw [if_neg (by decide), rdSs_cons]
    simp_arith []
    rw [rdSs_cons]
    simp_arith [cGetW]
    refine ⟨2, by decide +kernel, ?_⟩
    rw [if_neg (by decide), rdSs_cons]
    simp_arith [oEqN_strI sw_clear sw_call]
    rw [if_neg (by decide), rdSs_cons]
    simp_arith [oEqN_strI sw_clear sw_emit]
    rw [if_neg (by decide), rdSs_cons]
    simp_arith []
    rw [if_pos (by decide), rdSs_cons]
    simp_arith [cMeth, GG_call]
    refine ⟨_, hc, rfl, ?_⟩
    refine is_flag_ok (n := n + 2 * d + 9) hc ok ⟨C, Sub.refl, ?_⟩
    cases h : flagP fl v with
    | true => exact hq C m .refl (by simp [stP, h]) hc
    | false => exact hn C .refl (by simp [stP, h])
  | brk =>
    simp_arith [St1.t, T.d, T.ds, GG_kit]
    rw [if_neg (by decide), rdSs_cons]
    simp_arith []
    rw [rdSs_cons]
    simp_arith [cGetW]
    refine ⟨1, by decide +kernel, ?_⟩
    rw [if_neg (by decide), rdSs_cons]
    simp_arith [oEqN_strI sw_break sw_call]
    rw [if_neg (by decide), rdSs_cons]
    simp_arith [oEqN_strI sw_break sw_emit]
    rw [if_neg (by decide), rdSs_cons]
    simp_arith []
    rw [if_neg (by decide), rdSs_cons]
    simp_arith []
    rw [if_pos (by decide), rdSs_cons]
    simp_arith []
    exact ⟨C, Sub.refl, hq C m .refl (by simp [stP]) hc⟩
  | cont =>
    simp_arith [St1.t, T.d, T.ds, GG_kit]
    rw [if_neg (by decide), rdSs_cons]
    simp_arith []
    rw [rdSs_cons]
    simp_arith [cGetW]
    refine ⟨1, by decide +kernel, ?_⟩
    rw [if_neg (by decide), rdSs_cons]
    simp_arith [oEqN_strI sw_continue sw_call]
    rw [if_neg (by decide), rdSs_cons]
    simp_arith [oEqN_strI sw_continue sw_emit]
    rw [if_neg (by decide), rdSs_cons]
    simp_arith []
    rw [if_neg (by decide), rdSs_cons]
    simp_arith []
    rw [if_pos (by decide), rdSs_cons]
    simp_arith []
    exact ⟨C, Sub.refl, hq C m .refl (by simp [stP]) hc⟩
  | iff q a b =>
    simp_arith [St1.t, T.d, T.ds, GG_kit]
    rw [if_neg (by decide), rdSs_cons]
    simp_arith []
    rw [rdSs_cons]
    simp_arith [cGetW]
    refine ⟨4, by decide +kernel, ?_⟩
    rw [if_neg (by decide), rdSs_cons]
    simp_arith [oEqN_strI sw_if sw_call]
    rw [if_neg (by decide), rdSs_cons]
    simp_arith [oEqN_strI sw_if sw_emit]
    rw [if_neg (by decide), rdSs_cons]
    simp_arith []
    rw [if_neg (by decide), rdSs_cons]
    simp_arith []
    rw [if_neg (by decide), rdSs_cons]
    simp_arith []
    rw [rdSs_cons]
    simp_arith [oEqN_strI sw_if sw_for]
    rw [if_neg (by decide), rdSs_cons]
    simp_arith [cMeth, GG_call]
    refine ⟨_, hc, rfl, ?_⟩
    refine is_question_ok (n := n + 2 * d + 2) hp hv hc ok.1 fun C' s' => ?_
    refine ⟨_, rfl, ?_⟩
    cases h : quP fl q lv vs with
    | false =>
      simp only [Bool.not_false, if_true]
      rw [rdSs_cons]
      simp_arith []
      exact ⟨C', Sub.refl, hn C' (.sub s') (by simp [stP, h])⟩
    | true =>
      simp only [Bool.not_true, Bool.false_eq_true, if_false]
      try dsimp only
      rw [rdSs_cons]
      simp_arith [cMeth, GG_call]
      refine ⟨_, s' _ _ hc, rfl, ?_⟩
      obtain ⟨_, ⟨oa, la⟩, ob, lb⟩ := ok
      have hda : blDp a ≤ d ∧ blDp b ≤ d := by simp only [St1.dp] at hd; omega
      refine ih a n lv (dp + 1) m vs pc ck C' _ _ hda.1 oa la (s' _ _ hc) (s' _ _ hp) hl hv hne (fun C2 m1 k2 e2 h2 => ?_) (fun C2 k2 e2 => ?_)
      · refine ⟨_, rfl, ?_⟩
        simp only [Bool.not_true, Bool.false_eq_true, if_false]
        try dsimp only
        rw [rdSs_cons]
        simp_arith [cMeth, GG_call]
        refine ⟨_, h2, rfl, ?_⟩
        have kk := (KeepX.sub (ck := ck) s').trans k2
        refine ⟨_, atI_nat (i := 3) rfl, ?_⟩
        refine ih b n lv (dp + 1) m1 vs pc ck C2 _ _ hda.2 ob lb h2 (kk _ _ hne hp) hl hv hne (fun C3 m2 k3 e3 h3 => ⟨C3, Sub.refl, hq C3 m2 (kk.trans k3) ?_ h3⟩) (fun C3 k3 e3 => ⟨C3, Sub.refl, hn C3 (kk.trans k3) ?_⟩)
        · simp [stP, h, e2, e3]
        · simp [stP, h, e2, e3]
      · refine ⟨_, rfl, ?_⟩
        simp only [Bool.not_false, if_true]
        rw [rdSs_cons]
        simp_arith []
        exact ⟨C2, Sub.refl, hn C2 ((KeepX.sub (ck := ck) s').trans k2) (by simp [stP, h, e2])⟩
  | forr v a b =>
    simp_arith [St1.t, T.d, T.ds, GG_kit]
    rw [if_neg (by decide), rdSs_cons]
    simp_arith []
    rw [rdSs_cons]
    simp_arith [cGetW]
    refine ⟨4, by decide +kernel, ?_⟩
    rw [if_neg (by decide), rdSs_cons]
    simp_arith [oEqN_strI sw_for sw_call]
    rw [if_neg (by decide), rdSs_cons]
    simp_arith [oEqN_strI sw_for sw_emit]
    rw [if_neg (by decide), rdSs_cons]
    simp_arith []
    rw [if_neg (by decide), rdSs_cons]
    simp_arith []
    rw [if_neg (by decide), rdSs_cons]
    simp_arith []
    rw [rdSs_cons]
    simp_arith [oEqN_strI sw_for sw_for, decide_true]
    rw [rdSs_cons]
    simp_arith []
    rw [rdSs_cons]
    simp_arith [GG_call]
    refine ask_ok (n := n + 2 * d + 3) hp hv ok.1 fun C' s' => ?_
    refine ⟨_, rfl, ?_⟩
    cases h : askP v lv vs with
    | false =>
      simp only [Bool.not_false, if_true]
      rw [rdSs_cons]
      simp_arith []
      exact ⟨C', Sub.refl, hn C' (.sub s') (by simp [stP, h])⟩
    | true =>
      simp only [Bool.not_true, Bool.false_eq_true, if_false]
      try dsimp only
      rw [rdSs_cons]
      simp_arith [cMeth, GG_call]
      refine ⟨_, s' _ _ hc, rfl, ?_⟩
      obtain ⟨_, ⟨oa, la⟩, ob, lb⟩ := ok
      have hda : blDp a ≤ d ∧ blDp b ≤ d := by simp only [St1.dp] at hd; omega
      refine ih a n (lv + 1) (dp + 1) m vs pc ck C' _ _ hda.1 oa la (s' _ _ hc) (s' _ _ hp) hl hv hne (fun C2 m1 k2 e2 h2 => ?_) (fun C2 k2 e2 => ?_)
      · refine ⟨_, rfl, ?_⟩
        simp only [Bool.not_true, Bool.false_eq_true, if_false]
        try dsimp only
        rw [rdSs_cons]
        simp_arith [cMeth, GG_call]
        refine ⟨_, h2, rfl, ?_⟩
        have kk := (KeepX.sub (ck := ck) s').trans k2
        refine ⟨_, atI_nat (i := 3) rfl, ?_⟩
        refine ih b n lv (dp + 1) m1 vs pc ck C2 _ _ hda.2 ob lb h2 (kk _ _ hne hp) hl hv hne (fun C3 m2 k3 e3 h3 => ⟨C3, Sub.refl, hq C3 m2 (kk.trans k3) ?_ h3⟩) (fun C3 k3 e3 => ⟨C3, Sub.refl, hn C3 (kk.trans k3) ?_⟩)
        · simp [stP, h, e2, e3]
        · simp [stP, h, e2, e3]
      · refine ⟨_, rfl, ?_⟩
        simp only [Bool.not_false, if_true]
        rw [rdSs_cons]
        simp_arith []
        exact ⟨C2, Sub.refl, hn C2 ((KeepX.sub (ck := ck) s').trans k2) (by simp [stP, h, e2])⟩
end

/-! programs: blocks -/
def enuQ (ds : List D) (k : Nat) : List D := (ds.zipIdx k).map fun p => .tup [.int (p.2 : Nat), p.1]
theorem enuQ_cons (d : D) (ds : List D) (k : Nat) : enuQ (d :: ds) k = .tup [.int (k : Nat), d] :: enuQ ds (k + 1) := by simp [enuQ, List.zipIdx_cons]
def blkB : List CS := match b_Checker_is_block with
  | [_, _, _, _, .forS _ _ _ b, _] => b
  | _ => []
def stW : St1 → Str
  | .call _ => "call"
  | .emit _ => "emit"
  | .iff _ _ _ => "if"
  | .forr _ _ _ => "for"
  | .brk => "break"
  | .cont => "continue"
  | .set _ => "set"
  | .clear _ => "clear"
theorem st_at (s : St1) : ∃ r, s.t.d = .tup (.str (stW s) :: r) := by
  cases s <;> (simp only [St1.t, T.d, T.ds]; exact ⟨_, rfl⟩)
def endW (w : Str) : Bool := decide (w = Str.ofString "break") || decide (w = Str.ofString "continue")
theorem end_words : endW "call" = false ∧ endW "emit" = false ∧ endW "if" = false ∧ endW "for" = false ∧ endW "break" = true ∧ endW "continue" = true ∧ endW "set" = false ∧ endW "clear" = false := by decide +kernel
theorem end_iff (s : St1) : (decide (stW s = Str.ofString "break") || decide (stW s = Str.ofString "continue")) = isEnd s := by
  show endW (stW s) = isEnd s
  obtain ⟨a, b, c, d, e, f, g, h⟩ := end_words
  cases s <;> assumption
theorem sw_stW (s : St1) : PyData.strOk (stW s) = true := by cases s <;> (simp only [stW]; decide +kernel)
theorem ask_depth {v : T} {lv : Int} {vs : List T} (h : askP v lv vs = true) : v.p.depth ≤ 60 := by
  cases v with
  | tup xs =>
    cases xs with
    | nil => cases h
    | cons h0 xs =>
      simp only [askP, Bool.and_eq_true] at h
      obtain ⟨q, hq⟩ := Option.isSome_iff_exists.mp h.1
      have := meas_depth 4 _ q hq
      omega
  | _ => cases h
section
variable {fl : List Str} {n d : Nat} {lv dp : Int}
theorem lo_ok (ih : BlkOk fl d) {ex : Kxs} {Dd : EndsC} {C0 : CH} {pc pk ck : Addr} {L : List D} (h0 : C0 pk = none) (hne : pk ≠ ck) :
    ∀ (rest : List St1) (k : Nat) (m : Int) (vs : List T) (x6 x7 : Option D) (C : CH), L.length = k + rest.length → blOk rest → (∀ s ∈ rest, s.dp ≤ d) → vs.length + rest.length + 1000 * d ≤ 1000000 → (∀ t ∈ vs, okT t = true ∧ t.p.depth ≤ 60) → KeepX ck C0 C → C ck = some (CkO fl m) → C pk = some (.lst (T.ds vs)) →
      (∀ C' m' y6 y7, KeepX ck C0 C' → loP fl rest lv vs dp m = some m' → C' ck = some (CkO fl m') → Dd.nx [some (.ref ck), some (.tup L), some (.int lv), some (.ref pc), some (.int dp), some (.ref pk), y6, y7] C') →
      (∀ C', KeepX ck C0 C' → loP fl rest lv vs dp m = none → Dd.rt (.bl false) C') →
      forL (hT (.tp [6, 7])) (rdSs (GG (n + 2 * d + 13)) ex blkB) (fun _ => True) Dd (enuQ (T.ds (blT rest)) k) [some (.ref ck), some (.tup L), some (.int lv), some (.ref pc), some (.int dp), some (.ref pk), x6, x7] C
  | [], k, m, vs, x6, x7, C, _, _, _, _, _, kp, hc, _, hD, _ => ⟨trivial, hD C m x6 x7 kp (by simp [loP]) hc⟩
  | s :: rest, k, m, vs, x6, x7, C, hL, ok, hd, hl, hv, kp, hc, hp, hD, hF => by
    have hsl : 1000000 ≤ sizeLine := by decide
    have e : T.ds (blT (s :: rest)) = s.t.d :: T.ds (blT rest) := by simp only [blT, T.ds]
    rw [e, enuQ_cons]
    refine ⟨trivial, _, rfl, ?_⟩
    obtain ⟨o1, o2⟩ := ok
    simp only [List.length_cons] at hL hl
    simp only [blkB, b_Checker_is_block]
    rw [rdSs_cons]
    simp_arith [cMeth, GG_call]
    refine ⟨_, hc, rfl, ?_⟩
    refine statement_ok ih (n := n) (hd s List.mem_cons_self) o1 hc hp (by omega) hv hne (fun C2 m1 k2 e2 h2 => ?_) (fun C2 k2 e2 => ?_)
    · refine ⟨_, rfl, ?_⟩
      simp only [Bool.not_true, Bool.false_eq_true, if_false]
      obtain ⟨r, er⟩ := st_at s
      have kk := kp.trans k2
      have hp2 := k2 _ _ hne hp
      -- behind the look at break and continue
      have tail : ¬ (isEnd s = true ∧ (lv = 0 ∨ rest ≠ [])) → rdSs (GG (n + 2 * d + 13)) ex (blkB.drop 2) { Dd with nx := forL (hT (.tp [6, 7])) (rdSs (GG (n + 2 * d + 13)) ex blkB) (fun _ => True) Dd (enuQ (T.ds (blT rest)) (k + 1)), ct := forL (hT (.tp [6, 7])) (rdSs (GG (n + 2 * d + 13)) ex blkB) (fun _ => True) Dd (enuQ (T.ds (blT rest)) (k + 1)), bk := Dd.nx } [some (.ref ck), some (.tup L), some (.int lv), some (.ref pc), some (.int dp), some (.ref pk), some (.int k), some s.t.d] C2 := fun hno => by
        have nx := fun vs' C' (ev1 : vs' = nextK vs s) (hv' : ∀ t ∈ vs', okT t = true ∧ t.p.depth ≤ 60) (hl' : vs'.length + rest.length + 1000 * d ≤ 1000000) kp' hc' hp' => lo_ok ih (ex := ex) (Dd := Dd) (C0 := C0) (pc := pc) (pk := pk) (ck := ck) (L := L) h0 hne rest (k + 1) m1 vs' (some (.int k)) (some s.t.d) C' (by omega) o2 (fun x hx => hd x (List.mem_cons_of_mem _ hx)) hl' hv' kp' hc' hp'
          (fun C3 m3 y6 y7 k3 e3 h3 => hD C3 m3 y6 y7 k3 (by rw [loP, e2]; show (if _ then _ else _) = _; rw [if_neg hno, ← ev1]; exact e3) h3)
          (fun C3 k3 e3 => hF C3 k3 (by rw [loP, e2]; show (if _ then _ else _) = _; rw [if_neg hno, ← ev1]; exact e3))
        simp only [blkB, b_Checker_is_block, List.drop] at nx ⊢
        rw [rdSs_cons]
        cases s with
        | call v =>
          simp_arith [St1.t, T.d, T.ds, oEqN_strI sw_call sw_call, decide_true]
          rw [rdSs_cons]
          simp_arith []
          have ha : askP v lv vs = true := by
            cases h : askP v lv vs with
            | true => rfl
            | false => simp [stP, h] at e2
          have ed : T.ds vs ++ [v.d] = T.ds (vs ++ [v]) := by rw [T.ds_map, T.ds_map, List.map_append]; rfl
          refine ⟨isLst_of hp2, pk, _, _, rfl, rfl, hp2, by rw [T.ds_map, List.length_map]; omega, ?_⟩
          rw [ed]
          refine nx (vs ++ [v]) _ rfl (fun t ht => ?_) (by rw [List.length_append]; simp only [List.length_cons, List.length_nil]; omega) (fun a u na e3 => ?_) (by rw [cup_ne (Ne.symm hne)]; exact h2) cup_same
          · rcases List.mem_append.mp ht with ht | ht
            · exact hv t ht
            · rw [List.mem_singleton.mp ht]
              exact ⟨o1.1, ask_depth ha⟩
          · rw [cup_ne (fun z => by rw [z, h0] at e3; cases e3)]
            exact kk a u na e3
        | emit v => simp_arith [St1.t, T.d, T.ds, oEqN_strI sw_emit sw_call]; rw [if_neg (by decide)]; exact nx vs C2 rfl hv (by omega) kk h2 hp2
        | iff q a b => simp_arith [St1.t, T.d, T.ds, oEqN_strI sw_if sw_call]; rw [if_neg (by decide)]; exact nx vs C2 rfl hv (by omega) kk h2 hp2
        | forr v a b => simp_arith [St1.t, T.d, T.ds, oEqN_strI sw_for sw_call]; rw [if_neg (by decide)]; exact nx vs C2 rfl hv (by omega) kk h2 hp2
        | brk => simp_arith [St1.t, T.d, T.ds, oEqN_strI sw_break sw_call]; rw [if_neg (by decide)]; exact nx vs C2 rfl hv (by omega) kk h2 hp2
        | cont => simp_arith [St1.t, T.d, T.ds, oEqN_strI sw_continue sw_call]; rw [if_neg (by decide)]; exact nx vs C2 rfl hv (by omega) kk h2 hp2
        | set v => simp_arith [St1.t, T.d, T.ds, oEqN_strI sw_set sw_call]; rw [if_neg (by decide)]; exact nx vs C2 rfl hv (by omega) kk h2 hp2
        | clear v => simp_arith [St1.t, T.d, T.ds, oEqN_strI sw_clear sw_call]; rw [if_neg (by decide)]; exact nx vs C2 rfl hv (by omega) kk h2 hp2
      try dsimp only
      rw [rdSs_cons]
      rw [er]
      simp_arith [end_iff]
      rw [← er]
      have refuse : (isEnd s = true ∧ (lv = 0 ∨ rest ≠ [])) → Dd.rt (.bl false) C2 := fun hy => hF C2 kk (by rw [loP, e2]; show (if _ then _ else _) = _; rw [if_pos hy])
      simp only [blkB, b_Checker_is_block, List.drop] at tail
      cases he : isEnd s with
      | false =>
        simp only [Bool.false_eq_true, if_false]
        exact tail (by simp [he])
      | true =>
        simp only [if_true]
        by_cases hz : lv = 0
        · rw [if_pos (decide_eq_true hz), rdSs_cons]
          simp_arith []
          exact refuse ⟨he, .inl hz⟩
        · rw [if_neg (by simp [hz])]
          by_cases hr : rest = []
          · rw [if_neg (by subst hr; simp only [List.length_nil] at hL; simp; omega)]
            exact tail (by simp [hr, hz])
          · have : 0 < rest.length := List.length_pos_iff.mpr hr
            rw [if_pos (by simp; omega), rdSs_cons]
            simp_arith []
            exact refuse ⟨he, .inr hr⟩
    · refine ⟨_, rfl, ?_⟩
      simp only [Bool.not_false, if_true]
      rw [rdSs_cons]
      simp_arith []
      exact hF C2 (kp.trans k2) (by rw [loP, e2]; rfl)
theorem put_many {f x y : D} : putD (Str.ofString "many") x [(Str.ofString "flags", f), (Str.ofString "many", y)] = [(Str.ofString "flags", f), (Str.ofString "many", x)] := rfl
theorem dp_mem {d : Nat} : ∀ {b : List St1}, blDp b ≤ d + 1 → ∀ s ∈ b, s.dp ≤ d
  | x :: r, h, s, hs => by
    simp only [blDp] at h
    rcases List.mem_cons.mp hs with e | hs
    · rw [e]; omega
    · exact dp_mem (b := r) (by omega) s hs
theorem block_step (ih : BlkOk fl d) : BlkOk fl (d + 1) := fun b n lv dp m vs pc ck C Q E hd ok hl hc hp hlv hv hne hq hn => by
  have hsl : 1000000 ≤ sizeLine := by decide
  have hlen : (T.ds (blT b)).length = b.length := by rw [T.ds_map, List.length_map, blT_len]
  rw [show n + 2 * (d + 1) + 12 = (n + 2 * d + 13) + 1 by omega, W_Checker_is_block]
  unfold b_Checker_is_block
  rw [rdSs_cons]
  simp_arith [GG_kit]
  have hb : (40 < dp ∨ 3 < lv) → blP fl b lv vs dp m = none := fun h => by rw [blP, if_pos h]
  by_cases h1 : 40 < dp
  · rw [if_pos (decide_eq_true h1), rdSs_cons]
    simp_arith []
    exact ⟨C, Sub.refl, hn C .refl (hb (.inl h1))⟩
  · rw [if_neg (by simp [h1])]
    by_cases h2 : 3 < lv
    · rw [if_pos (decide_eq_true h2), rdSs_cons]
      simp_arith []
      exact ⟨C, Sub.refl, hn C .refl (hb (.inr h2))⟩
    · rw [if_neg (by simp [h2]), rdSs_cons]
      have hb2 : blP fl b lv vs dp m = if 400 < m + b.length then none else loP fl b lv vs dp (m + b.length) := by rw [blP, if_neg (by omega)]
      simp_arith [sFldPlus]
      refine ⟨_, _, hc, by simp, m, rfl, _, hc, (show 2 < 1000 by decide), ?_⟩
      rw [put_many, hlen]
      have hc1 : cup C ck (CkO fl (m + b.length)) ck = some (CkO fl (m + b.length)) := cup_same
      have k1 : KeepX ck C (cup C ck (CkO fl (m + b.length))) := .put
      have hp1 : cup C ck (CkO fl (m + b.length)) pc = some (.lst (T.ds vs)) := k1 _ _ hne hp
      show rdSs _ _ _ _ _ (cup C ck (CkO fl (m + b.length)))
      generalize cup C ck (CkO fl (m + b.length)) = C1 at hc1 k1 hp1
      rw [rdSs_cons]
      simp_arith [cAttr]
      refine ⟨_, _, hc1, by simp, _, rfl, ?_⟩
      rw [oI2_int]
      refine ⟨trivial, _, rfl, ?_⟩
      by_cases h3 : 400 < m + (b.length : Int)
      · rw [if_pos (decide_eq_true h3), rdSs_cons]
        simp_arith []
        exact ⟨C1, Sub.refl, hn C1 k1 (by rw [hb2, if_pos h3])⟩
      · rw [if_neg (by simp [h3])]
        rw [if_neg h3] at hb2
        try dsimp only
        rw [rdSs_cons]
        simp_arith []
        refine ⟨_, _, rfl, SqC_ref.mpr hp1, fun pk hpk => ?_⟩
        have npk : pk ≠ ck := fun z => by rw [z, hc1] at hpk; cases hpk
        have hc2 := cup_old (u := .lst (T.ds vs)) hpk hc1
        have hp2 : cup C1 pk (.lst (T.ds vs)) pk = some (.lst (T.ds vs)) := cup_same
        have k2 : KeepX ck C1 (cup C1 pk (.lst (T.ds vs))) := .sub (sub_new hpk)
        generalize cup C1 pk (.lst (T.ds vs)) = C2 at hc2 hp2 k2
        try dsimp only
        rw [rdSs_cons]
        simp_arith [sFor, iEnu]
        show forL (hT (.tp [6, 7])) (rdSs (GG (n + 2 * d + 13)) (exN E) blkB) (fun _ => True) _ (enuQ (T.ds (blT b)) 0) [some (.ref ck), some (.tup (T.ds (blT b))), some (.int lv), some (.ref pc), some (.int dp), some (.ref pk), none, none] C2
        refine lo_ok ih (C0 := C1) hpk npk b 0 (m + b.length) vs none none C2 (by rw [hlen]; omega) ok (dp_mem hd) (by omega) hv k2 hc2 hp2 (fun C3 m3 y6 y7 k3 e3 h3' => ?_) (fun C3 k3 e3 => ?_)
        · dsimp only
          rw [rdSs_cons]
          simp_arith []
          exact ⟨C3, Sub.refl, hq C3 m3 (k1.trans k3) (by rw [hb2]; exact e3) h3'⟩
        · exact ⟨C3, Sub.refl, hn C3 (k1.trans k3) (by rw [hb2]; exact e3)⟩
theorem block_ok : ∀ d, BlkOk fl d
  | 0 => fun b n lv dp m vs pc ck C Q E hd => by
    exfalso
    have : ∀ b : List St1, 1 ≤ blDp b := fun b => by
      induction b with
      | nil => exact Nat.le_refl _
      | cons s r ih => simp only [blDp]; omega
    have := this b
    omega
  | d + 1 => block_step (block_ok d)
end

/-! programs: flags, Program(..) -/
def arP (fl : List Str) : Bool := decide (fl.length ≤ 40) && (fl.all (fun z => isName (.str z)) && decide (L3S.cntD fl fl.length = fl.length))
section
variable {fl : List Str} {n : Nat} {C : CH} {Q : Kv} {E : Kx}
theorem are_flags_ok (hl : fl.length ≤ 1000) (ho : ∀ z ∈ fl, okT (.str z) = true) (hq : ∀ C', Sub C C' → Q (.bl (arP fl)) C') : W (n + 2) i_are_flags [.tup (fl.map D.str)] C Q E := by
  have hsl : 1000000 ≤ sizeLine := by decide
  rw [W_are_flags]
  unfold b_are_flags
  rw [rdSs_cons]
  simp_arith [GG_kit]
  rw [List.length_map]
  by_cases h4 : fl.length ≤ 40
  · rw [if_neg (by simp; omega)]
    simp_arith [cLc, iSeq, GG_call]
    refine lcL_of (fun z => .str z) (fun z => .bl (isName (.str z))) trivial fl (fun z hz => ⟨_, rfl, fun Q' hQ => ?_⟩) (by omega) ?_
    · simp_arith! [wipe3, GG_call]
      exact is_name_ok (n := n) (t := .str z) hQ (fun y e => by injection e with e; rw [← e]; exact ok_len (ho z hz))
    intro p hp
    refine oAll_new (bs := fl.map fun z => isName (.str z)) (by rw [List.map_map]; rfl) ?_
    have s1 := sub_new (o := .lst (fl.map fun z => D.bl (isName (.str z)))) hp
    refine ⟨_, rfl, ?_⟩
    rw [List.all_map]
    have e1 : fl.all (id ∘ fun z => isName (.str z)) = fl.all fun z => isName (.str z) := rfl
    rw [e1]
    cases h5 : fl.all fun z => isName (.str z) with
    | false =>
      simp only [Bool.not_false, if_true]
      rw [rdSs_cons]
      simp_arith []
      have := hq _ s1
      simp only [arP, h5, Bool.false_and, Bool.and_false] at this
      exact ⟨_, Sub.refl, this⟩
    | true =>
      simp only [Bool.not_true, Bool.false_eq_true, if_false]
      rw [rdSs_cons]
      simp_arith [cLenN]
      refine ⟨fl, rfl, by unfold scanBound; omega, ?_⟩
      have := hq _ s1
      simp only [arP, h5, Bool.true_and, decide_eq_true h4] at this
      refine ⟨_, Sub.refl, ?_⟩
      rw [List.length_map]
      have e2 : decide (((L3S.cntD fl fl.length : Nat) : Int) = (fl.length : Nat)) = decide (L3S.cntD fl fl.length = fl.length) := by
        by_cases h : L3S.cntD fl fl.length = fl.length
        · simp [h]
        · rw [decide_eq_false h, decide_eq_false (by omega)]
      rw [e2]
      exact this
  · rw [if_pos (by simp; omega), rdSs_cons]
    simp_arith []
    have := hq C Sub.refl
    simp only [arP, decide_eq_false h4, Bool.false_and] at this
    exact ⟨C, Sub.refl, this⟩
def progP (fl : List Str) (a b : List St1) : Bool := arP fl && match blP fl a 1 [] 1 0 with
  | none => false
  | some m => (blP fl b 0 [] 1 m).isSome
abbrev PrO (fl : List Str) (a b : List St1) : CO := .ins c_Program [("body", .tup (T.ds (blT a))), ("other", .tup (T.ds (blT b))), ("flags", .tup (fl.map D.str))]
theorem KeepX.base {ck : Addr} {C0 C C' : CH} (h : Sub C0 C) (k : KeepX ck C C') (n : C0 ck = none) : Sub C0 C' := fun a u e => k a u (fun z => by rw [z, n] at e; cases e) (h a u e)
theorem checker_init {q : Addr} {Q : CH → Prop} (hc : C q = some (.ins c_Checker [])) (hq : Q (cup C q (CkO fl 0))) : W (n + 1) i_Checker___init__ [.ref q, .tup (fl.map D.str)] C (fun v C2 => v = .non ∧ Q C2) E := by
  rw [W_Checker___init__]
  unfold b_Checker___init__
  rw [rdSs_cons]
  simp_arith [sFldC]
  refine ⟨_, _, hc, by simp, (show 0 < 1000 by decide), ?_⟩
  rw [rdSs_cons]
  simp_arith [sFldC]
  refine ⟨_, _, rfl, by simp, (show 1 < 1000 by decide), _, Sub.refl, ?_⟩
  rw [cup_cup]
  exact hq
theorem prog_init {a b : List St1} {d : Nat} {p : Addr} {Q : CH → Prop} (ha : blDp a ≤ d) (hb : blDp b ≤ d) (oa : blOk a) (ob : blOk b) (la : a.length ≤ 1000) (lb : b.length ≤ 1000) (hl : fl.length ≤ 1000) (ho : ∀ z ∈ fl, okT (.str z) = true) (hd : d ≤ 900) (hp : C p = none)
    (hy : progP fl a b = true → ∀ C', Sub C C' → C' p = some (PrO fl a b) → Q C') (hn : progP fl a b = false → ∀ C', Sub C C' → E ⟨1, []⟩ C') :
    W (n + 2 * d + 14) i_Program___init__ [.ref p, .tup (T.ds (blT a)), .tup (T.ds (blT b)), .tup (fl.map D.str)] (cup C p (.ins c_Program [])) (fun v C2 => v = .non ∧ Q C2) E := by
  rw [W_Program___init__]
  unfold b_Program___init__
  have sp : Sub C (cup C p (.ins c_Program [])) := sub_new hp
  have hp0 : cup C p (.ins c_Program []) p = some (.ins c_Program []) := cup_same
  generalize cup C p (.ins c_Program []) = C0 at sp hp0
  rw [rdSs_cons]
  simp_arith [GG_call]
  refine are_flags_ok (n := n + 2 * d + 11) hl ho fun C1 s1 => ?_
  refine ⟨_, rfl, ?_⟩
  cases hf : arP fl with
  | false =>
    simp only [Bool.not_false, if_true]
    rw [rdSs_cons]
    simp_arith []
    exact ⟨C1, Sub.refl, hn (by simp [progP, hf]) C1 (sp.trans s1)⟩
  | true =>
    simp only [Bool.not_true, Bool.false_eq_true, if_false]
    rw [rdSs_cons]
    simp_arith [cMake, GG_make]
    intro ck hck
    have hp1 := s1 _ _ hp0
    have npc : p ≠ ck := fun z => by rw [← z, hp1] at hck; cases hck
    refine checker_init (n := n + 2 * d + 11) cup_same ?_
    rw [cup_cup]
    have hc2 : cup C1 ck (CkO fl 0) ck = some (CkO fl 0) := cup_same
    have s2 : Sub C1 (cup C1 ck (CkO fl 0)) := sub_new hck
    generalize cup C1 ck (CkO fl 0) = C2 at hc2 s2
    try dsimp only
    rw [rdSs_cons]
    simp_arith [cMeth, GG_call, oLst]
    refine ⟨_, hc2, rfl, fun pc hpc => ?_⟩
    have n1 : pc ≠ ck := fun z => by rw [z, hc2] at hpc; cases hpc
    have s3 : Sub C2 (cup C2 pc (.lst [])) := sub_new hpc
    have hc3 := s3 _ _ hc2
    have hl3 : cup C2 pc (.lst []) pc = some (.lst (T.ds [])) := cup_same
    generalize cup C2 pc (.lst []) = C3 at s3 hc3 hl3
    have s03 := (s1.trans s2).trans s3
    have en : n + 2 * d + 13 = n + 1 + 2 * d + 12 := by omega
    have fail : (blP fl a 1 [] 1 0 = none ∨ ∃ m, blP fl a 1 [] 1 0 = some m ∧ blP fl b 0 [] 1 m = none) → ∀ C', Sub C C' → ∃ C1', Sub C1' C' ∧ E ⟨1, []⟩ C1' := fun h C' s' => ⟨C', Sub.refl, hn (by
      rcases h with h | ⟨m, h1, h2⟩
      · simp [progP, h]
      · simp [progP, h1, h2]) C' s'⟩
    rw [en]
    refine block_ok (fl := fl) d a (n + 1) 1 1 0 [] pc ck C3 _ _ ha oa la hc3 hl3 (by simp; omega) (fun _ h => nomatch h) n1 (fun C4 m k4 e4 h4 => ?_) (fun C4 k4 e4 => ?_)
    · refine ⟨_, rfl, ?_⟩
      simp only [Bool.not_true, Bool.false_eq_true, if_false]
      have s4 : Sub C1 C4 := KeepX.base (s2.trans s3) k4 hck
      refine ⟨_, h4, rfl, fun pd hpd => ?_⟩
      have n2 : pd ≠ ck := fun z => by rw [z, h4] at hpd; cases hpd
      have s5 : Sub C4 (cup C4 pd (.lst [])) := sub_new hpd
      have hc5 := s5 _ _ h4
      have hl5 : cup C4 pd (.lst []) pd = some (.lst (T.ds [])) := cup_same
      generalize cup C4 pd (.lst []) = C5 at s5 hc5 hl5
      refine block_ok (fl := fl) d b (n + 1) 0 1 m [] pd ck C5 _ _ hb ob lb hc5 hl5 (by simp; omega) (fun _ h => nomatch h) n2 (fun C6 m6 k6 e6 h6 => ?_) (fun C6 k6 e6 => ?_)
      · have s6 : Sub C1 C6 := KeepX.base (s4.trans s5) k6 hck
        refine ⟨_, rfl, ?_⟩
        simp only [Bool.not_true, Bool.false_eq_true, if_false]
        rw [rdSs_cons]
        simp_arith [sFldC]
        refine ⟨_, _, s6 _ _ hp1, by simp, (show 0 < 1000 by decide), ?_⟩
        rw [rdSs_cons]
        simp_arith [sFldC]
        refine ⟨_, _, rfl, by simp, (show 1 < 1000 by decide), ?_⟩
        rw [rdSs_cons]
        simp_arith [sFldC]
        refine ⟨_, _, rfl, by simp, (show 2 < 1000 by decide), _, Sub.refl, ?_⟩
        rw [cup_cup, cup_cup]
        have s07 : Sub C C6 := (sp.trans s1).trans s6
        refine hy (by simp [progP, hf, e4, e6]) _ (fun u o e => ?_) cup_same
        rw [cup_ne (fun z => by rw [z, hp] at e; cases e)]
        exact s07 u o e
      · have s6 : Sub C1 C6 := KeepX.base (s4.trans s5) k6 hck
        refine ⟨_, rfl, ?_⟩
        simp only [Bool.not_false, if_true]
        rw [rdSs_cons]
        simp_arith []
        exact fail (.inr ⟨m, e4, e6⟩) C6 ((sp.trans s1).trans s6)
    · have s4 : Sub C1 C4 := KeepX.base (s2.trans s3) k4 hck
      refine ⟨_, rfl, ?_⟩
      simp only [Bool.not_false, if_true]
      rw [rdSs_cons]
      simp_arith []
      exact fail (.inl e4) C4 ((sp.trans s1).trans s4)
end

/-! programs: when their statements are right, apart from bounds -/
mutual
def stV (fl : List Str) : St1 → Int → List T → Bool
  | .call v, lv, vs => askP v lv vs
  | .emit v, lv, vs => isWord v || useP v lv vs
  | .set v, _, _ => flagP fl v
  | .clear v, _, _ => flagP fl v
  | .brk, _, _ => true
  | .cont, _, _ => true
  | .iff q a b, lv, vs => quP fl q lv vs && (decide (lv ≤ 3) && (loV fl a lv vs && loV fl b lv vs))
  | .forr v a b, lv, vs => askP v lv vs && (decide (lv + 1 ≤ 3) && (loV fl a (lv + 1) vs && loV fl b lv vs))
def loV (fl : List Str) : List St1 → Int → List T → Bool
  | [], _, _ => true
  | s :: r, lv, vs => stV fl s lv vs && (!(isEnd s && (decide (lv = 0) || !r.isEmpty)) && loV fl r lv (nextK vs s))
end
mutual
def cntS : St1 → Nat
  | .iff _ a b => (a.length + cntL a) + (b.length + cntL b)
  | .forr _ a b => (a.length + cntL a) + (b.length + cntL b)
  | _ => 0
def cntL : List St1 → Nat
  | [] => 0
  | s :: r => cntS s + cntL r
end
theorem glue {p x y z : Bool} {f : Int → Option Int} {m1 m2 : Int} (w : Bool) (h : f m1 = if (z && y) = true then some m2 else none) (e : z = w) {m3 : Int} (hm : m2 = m3) : (if p = true then (if (w && x) = true then some m1 else none).bind fun k => f k else none) = if (p && (w && (x && y))) = true then some m3 else none := by
  subst e; subst hm
  cases p <;> cases z <;> cases x <;> simp_all
mutual
theorem stP_eq {fl : List Str} : ∀ (s : St1) (lv : Int) (vs : List T) (dp m : Int), dp + s.dp ≤ 40 → m + cntS s ≤ 400 → stP fl s lv vs dp m = if stV fl s lv vs = true then some (m + cntS s) else none
  | .call v, lv, vs, dp, m, _, _ => by simp [stP, stV, cntS]
  | .emit v, lv, vs, dp, m, _, _ => by simp [stP, stV, cntS]
  | .set v, lv, vs, dp, m, _, _ => by simp [stP, stV, cntS]
  | .clear v, lv, vs, dp, m, _, _ => by simp [stP, stV, cntS]
  | .brk, lv, vs, dp, m, _, _ => by simp [stP, stV, cntS]
  | .cont, lv, vs, dp, m, _, _ => by simp [stP, stV, cntS]
  | .iff q a b, lv, vs, dp, m, hd, hm => by
    simp only [St1.dp, cntS] at hd hm
    have e : stV fl (.iff q a b) lv vs = (quP fl q lv vs && (decide (lv ≤ 3) && (loV fl a lv vs && loV fl b lv vs))) := by simp only [stV]
    rw [e]
    simp only [stP, cntS]
    have h1 := blP_eq (fl := fl) a lv vs (dp + 1) m (by omega) (by omega)
    have h2 := blP_eq (fl := fl) b lv vs (dp + 1) (m + (a.length + cntL a : Nat)) (by omega) (by omega)
    rw [h1]
    exact glue (decide (lv ≤ 3)) h2 rfl (by omega)
  | .forr v a b, lv, vs, dp, m, hd, hm => by
    simp only [St1.dp, cntS] at hd hm
    have e : stV fl (.forr v a b) lv vs = (askP v lv vs && (decide (lv + 1 ≤ 3) && (loV fl a (lv + 1) vs && loV fl b lv vs))) := by simp only [stV]
    rw [e]
    simp only [stP, cntS]
    have h1 := blP_eq (fl := fl) a (lv + 1) vs (dp + 1) m (by omega) (by omega)
    have h2 := blP_eq (fl := fl) b lv vs (dp + 1) (m + (a.length + cntL a : Nat)) (by omega) (by omega)
    rw [h1]
    by_cases hl : lv + 1 ≤ 3
    · have hl2 : decide (lv ≤ 3) = true := decide_eq_true (by omega)
      refine glue (decide (lv + 1 ≤ 3)) h2 ?_ (by omega)
      rw [hl2, decide_eq_true hl]
    · rw [decide_eq_false hl]
      simp
theorem blP_eq {fl : List Str} : ∀ (b : List St1) (lv : Int) (vs : List T) (dp m : Int), dp + blDp b ≤ 41 → m + (b.length + cntL b : Nat) ≤ 400 → blP fl b lv vs dp m = if (decide (lv ≤ 3) && loV fl b lv vs) = true then some (m + (b.length + cntL b : Nat)) else none
  | [], lv, vs, dp, m, hd, hm => by
    simp only [blDp] at hd
    simp only [List.length_nil, cntL] at hm
    simp only [blP, loP, loV, List.length_nil, cntL, Bool.and_true, decide_eq_true_eq]
    by_cases h3 : 3 < lv
    · rw [if_pos (.inr h3), if_neg (by omega)]
    · rw [if_neg (by omega), if_neg (by omega), if_pos (by omega)]
  | s :: r, lv, vs, dp, m, hd, hm => by
    have hL := loP_eq (fl := fl) (s :: r) lv vs dp (m + (s :: r).length) hd (by simp only [List.length_cons, cntL] at hm ⊢; omega)
    have h1 : 1 ≤ blDp (s :: r) := by simp only [blDp]; omega
    simp only [blP]
    by_cases h3 : 3 < lv
    · rw [if_pos (.inr h3)]
      simp only [show ¬ lv ≤ 3 by omega, decide_false, Bool.false_and, Bool.false_eq_true, if_false]
    · rw [if_neg (by omega), if_neg (by omega), hL]
      simp only [show lv ≤ 3 by omega, decide_true, Bool.true_and]
      split
      · congr 1; omega
      · rfl
theorem loP_eq {fl : List Str} : ∀ (b : List St1) (lv : Int) (vs : List T) (dp m : Int), dp + blDp b ≤ 41 → m + cntL b ≤ 400 → loP fl b lv vs dp m = if loV fl b lv vs = true then some (m + cntL b) else none
  | [], lv, vs, dp, m, _, _ => by simp [loP, loV, cntL]
  | s :: r, lv, vs, dp, m, hd, hm => by
    simp only [blDp] at hd
    simp only [cntL] at hm
    have h1 := stP_eq (fl := fl) s lv vs dp m (by omega) (by omega)
    have h2 := loP_eq (fl := fl) r lv (nextK vs s) dp (m + cntS s) (by omega) (by omega)
    have e : loV fl (s :: r) lv vs = (stV fl s lv vs && (!(isEnd s && (decide (lv = 0) || !r.isEmpty)) && loV fl r lv (nextK vs s))) := by simp only [loV]
    rw [e]
    simp only [loP, cntL]
    rw [h1]
    by_cases hs : stV fl s lv vs = true
    case neg => simp [hs]
    case pos =>
      simp only [hs, if_true, Option.bind, Bool.true_and]
      rw [h2]
      by_cases he : isEnd s ∧ (lv = 0 ∨ r ≠ [])
      · have e2 : (isEnd s && (decide (lv = 0) || !r.isEmpty)) = true := by
          rcases he with ⟨e1, e2 | e2⟩
          · simp [e1, e2]
          · cases r with
            | nil => exact absurd rfl e2
            | cons x xs => simp [e1]
        rw [if_pos he, e2]; rfl
      · have e2 : (isEnd s && (decide (lv = 0) || !r.isEmpty)) = false := by
          cases h : isEnd s with
          | false => rfl
          | true =>
            have n1 : ¬ lv = 0 := fun e => he ⟨h, .inl e⟩
            have n2 : r = [] := by
              cases r with
              | nil => rfl
              | cons x xs => exact absurd ⟨h, .inr (by simp)⟩ he
            simp [n1, n2]
        rw [if_neg he, e2]
        simp only [Bool.not_false, Bool.true_and]
        split
        · congr 1; omega
        · rfl
end
def arOk (fl : List Str) : Prop := arP fl = true
theorem progP_eq {fl : List Str} {a b : List St1} (hf : arP fl = true) (ha : blDp a ≤ 40) (hb : blDp b ≤ 40) (hc : (a.length + cntL a) + (b.length + cntL b) ≤ 400) : progP fl a b = (loV fl a 1 [] && loV fl b 0 []) := by
  unfold progP
  rw [hf, blP_eq (fl := fl) a 1 [] 1 0 (by omega) (by omega)]
  cases loV fl a 1 [] with
  | false => rfl
  | true =>
    simp only [Bool.true_and, show ((1 : Int) ≤ 3) = True from by simp, decide_true, if_true]
    rw [blP_eq (fl := fl) b 0 [] 1 (0 + (a.length + cntL a : Nat)) (by omega) (by omega)]
    cases loV fl b 0 [] <;> rfl
/-! more may be used where more has been called -/
theorem inT_mono {v : T} {vs us : List T} (h : ∀ t ∈ vs, t ∈ us) (e : inT v vs = true) : inT v us = true := by
  have pl : ∀ xs : List T, T.pl xs = xs.map T.p := fun xs => by
    induction xs with
    | nil => rfl
    | cons x xs ih => rw [T.pl, ih, List.map_cons]
  unfold inT at e ⊢
  rw [pl, List.any_map, List.any_eq_true] at e ⊢
  obtain ⟨x, hx, hx2⟩ := e
  exact ⟨x, h x hx, hx2⟩
theorem useP_mono {v : T} {lv : Int} {vs us : List T} (h : ∀ t ∈ vs, t ∈ us) (e : useP v lv vs = true) : useP v lv us = true := by
  by_cases hn : isNum v = true
  · cases v with
    | int i => exact e
    | _ => cases hn
  · rw [useP_not (by simpa using hn)] at e ⊢
    rw [Bool.and_eq_true] at e ⊢
    exact ⟨e.1, inT_mono h e.2⟩
theorem askP_mono {v : T} {lv : Int} {vs us : List T} (h : ∀ t ∈ vs, t ∈ us) (e : askP v lv vs = true) : askP v lv us = true := by
  cases v with
  | tup xs =>
    cases xs with
    | nil => exact e
    | cons z xs =>
      simp only [askP, Bool.and_eq_true, List.all_eq_true] at e ⊢
      exact ⟨e.1, fun x hx => useP_mono h (e.2 x hx)⟩
  | _ => exact e
theorem next_mono {s : St1} {vs us : List T} (h : ∀ t ∈ vs, t ∈ us) : ∀ t ∈ nextK vs s, t ∈ nextK us s := fun t ht => by
  cases s with
  | call v =>
    simp only [nextK, List.mem_append] at ht ⊢
    exact ht.imp (h t) id
  | _ => exact h t ht
mutual
theorem stV_mono {fl : List Str} : ∀ (s : St1) (lv : Int) (vs us : List T), (∀ t ∈ vs, t ∈ us) → stV fl s lv vs = true → stV fl s lv us = true
  | .call v, lv, vs, us, h, e => askP_mono h e
  | .emit v, lv, vs, us, h, e => by
    simp only [stV, Bool.or_eq_true] at e ⊢
    exact e.imp id (useP_mono h)
  | .set v, lv, vs, us, h, e => e
  | .clear v, lv, vs, us, h, e => e
  | .brk, lv, vs, us, h, e => rfl
  | .cont, lv, vs, us, h, e => rfl
  | .iff q a b, lv, vs, us, h, e => by
    simp only [stV, Bool.and_eq_true] at e ⊢
    refine ⟨?_, e.2.1, loV_mono a lv vs us h e.2.2.1, loV_mono b lv vs us h e.2.2.2⟩
    cases q with
    | ask v => exact askP_mono h e.1
    | flag v => exact e.1
  | .forr v a b, lv, vs, us, h, e => by
    simp only [stV, Bool.and_eq_true] at e ⊢
    exact ⟨askP_mono h e.1, e.2.1, loV_mono a (lv + 1) vs us h e.2.2.1, loV_mono b lv vs us h e.2.2.2⟩
theorem loV_mono {fl : List Str} : ∀ (b : List St1) (lv : Int) (vs us : List T), (∀ t ∈ vs, t ∈ us) → loV fl b lv vs = true → loV fl b lv us = true
  | [], lv, vs, us, h, e => rfl
  | s :: r, lv, vs, us, h, e => by
    simp only [loV, Bool.and_eq_true] at e ⊢
    exact ⟨stV_mono s lv vs us h e.1, e.2.1, loV_mono r lv _ _ (next_mono h) e.2.2⟩
end
/-! parts of blocks -/
def endK : List T → List St1 → List T
  | vs, [] => vs
  | vs, s :: r => endK (nextK vs s) r
theorem endK_append : ∀ (xs ys : List St1) (vs : List T), endK vs (xs ++ ys) = endK (endK vs xs) ys
  | [], ys, vs => rfl
  | x :: xs, ys, vs => endK_append xs ys (nextK vs x)
theorem next_sub {s : St1} {vs : List T} : ∀ t ∈ vs, t ∈ nextK vs s := fun t ht => by
  cases s <;> first | exact ht | exact List.mem_append_left _ ht
/-- statements with others behind them -/
def preV (fl : List Str) : List St1 → Int → List T → Bool
  | [], _, _ => true
  | s :: r, lv, vs => stV fl s lv vs && (!isEnd s && preV fl r lv (nextK vs s))
theorem loV_append {fl : List Str} {x : St1} {ys : List St1} {lv : Int} : ∀ (xs : List St1) (vs : List T), loV fl (xs ++ x :: ys) lv vs = (preV fl xs lv vs && loV fl (x :: ys) lv (endK vs xs))
  | [], vs => by simp [preV, endK]
  | s :: r, vs => by
    have h := loV_append (fl := fl) (x := x) (ys := ys) (lv := lv) r (nextK vs s)
    rw [List.cons_append, loV, h, preV, endK]
    have e : (r ++ x :: ys).isEmpty = false := by cases r <;> rfl
    rw [e]
    simp only [Bool.not_false, Bool.or_true, Bool.and_true, Bool.and_assoc]
def endLast : List St1 → Bool
  | [] => false
  | [s] => isEnd s
  | _ :: r => endLast r
theorem loV_pre {fl : List Str} {lv : Int} : ∀ (xs : List St1) (vs : List T), endLast xs = false → loV fl xs lv vs = preV fl xs lv vs
  | [], vs, _ => rfl
  | [s], vs, h => by
    have h' : isEnd s = false := h
    simp [loV, preV, h']
  | s :: x :: r, vs, h => by
    have h2 := loV_pre (fl := fl) (lv := lv) (x :: r) (nextK vs s) h
    rw [loV, h2]
    conv => rhs; rw [preV]
    simp
theorem pre_loV {fl : List Str} {lv : Int} : ∀ (xs : List St1) (vs : List T), preV fl xs lv vs = true → loV fl xs lv vs = true
  | [], vs, _ => rfl
  | s :: r, vs, h => by
    simp only [preV, Bool.and_eq_true, Bool.not_eq_true'] at h
    simp only [loV, Bool.and_eq_true, h.1, h.2.1, Bool.false_and, Bool.not_false, pre_loV r _ h.2.2, and_self]
theorem pre_end {fl : List Str} {lv : Int} : ∀ (xs : List St1) (vs : List T), preV fl xs lv vs = true → endLast xs = false
  | [], vs, _ => rfl
  | [s], vs, h => by
    simp only [preV, Bool.and_eq_true, Bool.not_eq_true'] at h
    exact h.2.1
  | s :: x :: r, vs, h => by
    simp only [preV, Bool.and_eq_true] at h
    exact pre_end (x :: r) (nextK vs s) (by simp only [preV, Bool.and_eq_true]; exact h.2.2)

def stK (l c : Addr) (r t : Int) : List (L2.Key × D) := [(.inr "great", .ref l), (.inr "cells", .ref c), (.inr "left", .int r), (.inr "turn", .int t)]
/-- the law's state stands at s, N draws are left; the rest of the heap is C0 -/
structure StAt (C0 C : CH) (s l c : Addr) (ls cs : List Int) (r t : Int) : Prop where
  at_ : C s = some (.dic (stK l c r t))
  large : C l = some (.lst (ls.map D.int))
  cells : C c = some (.lst (cs.map D.int))
  sub : Sub C0 C
  s0 : C0 s = none
  l0 : C0 l = none
  c0 : C0 c = none
  lc : l ≠ c
def St (C0 C : CH) (s : Addr) (N : Nat) : Prop := ∃ l c ls cs r t, StAt C0 C s l c ls cs r t ∧ 0 ≤ t ∧ t + N ≤ 2 ^ 40 ∧ (ls.length : Int) ≤ 1000 ∧ (cs.length : Int) ≤ 1000
theorem StAt.sl {C0 C : CH} {s l c : Addr} {ls cs : List Int} {r t : Int} (h : StAt C0 C s l c ls cs r t) : s ≠ l ∧ s ≠ c := by
  refine ⟨fun e => ?_, fun e => ?_⟩
  · have a := h.at_; rw [e, h.large] at a; cases a
  · have a := h.at_; rw [e, h.cells] at a; cases a
theorem StAt.put {C0 C : CH} {s l c : Addr} {ls cs : List Int} {r t r' t' : Int} (h : StAt C0 C s l c ls cs r t) : StAt C0 (cup C s (.dic (stK l c r' t'))) s l c ls cs r' t' := by
  obtain ⟨a, b⟩ := h.sl
  exact ⟨cup_same, by rw [cup_ne (Ne.symm a)]; exact h.large, by rw [cup_ne (Ne.symm b)]; exact h.cells, sub_at h.s0 h.sub, h.s0, h.l0, h.c0, h.lc⟩
theorem StAt.putL {C0 C : CH} {s l c : Addr} {ls ls' cs : List Int} {r t : Int} (h : StAt C0 C s l c ls cs r t) : StAt C0 (cup C l (.lst (ls'.map D.int))) s l c ls' cs r t := by
  obtain ⟨a, b⟩ := h.sl
  exact ⟨by rw [cup_ne a]; exact h.at_, cup_same, by rw [cup_ne (Ne.symm h.lc)]; exact h.cells, sub_at h.l0 h.sub, h.s0, h.l0, h.c0, h.lc⟩
theorem StAt.new {C0 C : CH} {s l c p : Addr} {o : CO} {ls cs : List Int} {r t : Int} (h : StAt C0 C s l c ls cs r t) (hp : C p = none) : StAt C0 (cup C p o) s l c ls cs r t :=
  ⟨cup_old hp h.at_, cup_old hp h.large, cup_old hp h.cells, h.sub.trans (sub_new hp), h.s0, h.l0, h.c0, h.lc⟩
theorem st_large {l c : Addr} {r t : Int} : valC (stK l c r t) (.inr "great") = some (.ref l) := rfl
theorem st_cells {l c : Addr} {r t : Int} : valC (stK l c r t) (.inr "cells") = some (.ref c) := rfl
theorem st_rest {l c : Addr} {r t : Int} : valC (stK l c r t) (.inr "left") = some (.int r) := rfl
theorem st_turn {l c : Addr} {r t : Int} : valC (stK l c r t) (.inr "turn") = some (.int t) := rfl
theorem st_putR {l c : Addr} {r t r' : Int} : putC (stK l c r t) (.inr "left") (.int r') = stK l c r' t := rfl
theorem st_putT {l c : Addr} {r t t' : Int} : putC (stK l c r t) (.inr "turn") (.int t') = stK l c r t' := rfl
/-- state[..] -/
theorem ix_rest {C0 C : CH} {s l c : Addr} {ls cs : List Int} {r t : Int} {Q : Kv} (h : StAt C0 C s l c ls cs r t) : oIxA (.ref s) (.str "left") C Q ↔ Q (.int r) C := by
  unfold oIxA
  simp only [h.at_]
  constructor
  · rintro ⟨k, d, hk, e, q⟩
    cases hk
    rw [st_rest] at e
    cases e
    exact q
  · intro q
    exact ⟨_, _, rfl, st_rest, q⟩
theorem ix_turn {C0 C : CH} {s l c : Addr} {ls cs : List Int} {r t : Int} {Q : Kv} (h : StAt C0 C s l c ls cs r t) : oIxA (.ref s) (.str "turn") C Q ↔ Q (.int t) C := by
  unfold oIxA
  simp only [h.at_]
  constructor
  · rintro ⟨k, d, hk, e, q⟩
    cases hk
    rw [st_turn] at e
    cases e
    exact q
  · intro q
    exact ⟨_, _, rfl, st_turn, q⟩
theorem ix_large {C0 C : CH} {s l c : Addr} {ls cs : List Int} {r t : Int} {Q : Kv} (h : StAt C0 C s l c ls cs r t) : oIxA (.ref s) (.str "great") C Q ↔ Q (.ref l) C := by
  unfold oIxA
  simp only [h.at_]
  constructor
  · rintro ⟨k, d, hk, e, q⟩
    cases hk
    rw [st_large] at e
    cases e
    exact q
  · intro q
    exact ⟨_, _, rfl, st_large, q⟩
theorem ix_cells {C0 C : CH} {s l c : Addr} {ls cs : List Int} {r t : Int} {Q : Kv} (h : StAt C0 C s l c ls cs r t) : oIxA (.ref s) (.str "cells") C Q ↔ Q (.ref c) C := by
  unfold oIxA
  simp only [h.at_]
  constructor
  · rintro ⟨k, d, hk, e, q⟩
    cases hk
    rw [st_cells] at e
    cases e
    exact q
  · intro q
    exact ⟨_, _, rfl, st_cells, q⟩
theorem snap_ints (C : CH) : ∀ ns : List Int, SnapL C (ns.map D.int) (ns.map PyData.int)
  | [] => .nil
  | n :: ns => .cons (.int n) (snap_ints C ns)
theorem deep_ints : ∀ ns : List Int, PyData.canLayAll0 (ns.map PyData.int) = true ∧ PyData.depthAll (ns.map PyData.int) = 0
  | [] => ⟨rfl, rfl⟩
  | n :: ns => by
    obtain ⟨h1, h2⟩ := deep_ints ns
    exact ⟨h1, by show max 0 _ = 0; rw [h2]; rfl⟩
/-- a list of ints against the empty list -/
theorem ints_ne {C : CH} {p r : Addr} {ns : List Int} {Q : Kv} (h : C p = some (.lst (ns.map D.int))) (h2 : C r = some (.lst [])) (q : Q (.bl (!ns.isEmpty)) C) : oEqN not (.ref p) (.ref r) C Q := by
  obtain ⟨d1, d2⟩ := deep_ints ns
  refine ⟨.list (ns.map PyData.int), .list [], .lst h (snap_ints C ns), .lst h2 .nil, ?_, by decide, ?_⟩
  · have e : (PyData.list (ns.map PyData.int)).depth ≤ 350 := by
      show PyData.depthAll _ + 1 ≤ 350
      omega
    unfold deepOk
    rw [decide_eq_true e, Bool.and_true]
    exact d1
  · cases ns with
    | nil => exact q
    | cons j js => exact q
theorem set_rest {C : CH} {s l c : Addr} {r t z : Int} {Q : CH → Prop} (h : C s = some (.dic (stK l c r t))) (q : Q (cup C s (.dic (stK l c z t)))) : oSetL (.ref s) (.str "left") (.int z) C Q ∨ oSetD (.ref s) (.str "left") (.int z) C Q :=
  .inr ⟨s, _, _, rfl, h, rfl, by show 4 < sizeLine; decide, by rw [st_putR]; exact q⟩
theorem set_turn {C : CH} {s l c : Addr} {r t z : Int} {Q : CH → Prop} (h : C s = some (.dic (stK l c r t))) (q : Q (cup C s (.dic (stK l c r z)))) : oSetL (.ref s) (.str "turn") (.int z) C Q ∨ oSetD (.ref s) (.str "turn") (.int z) C Q :=
  .inr ⟨s, _, _, rfl, h, rfl, by show 4 < sizeLine; decide, by rw [st_putT]; exact q⟩
theorem St.less {C0 C : CH} {s : Addr} {N k : Nat} (h : St C0 C s (N + k)) : St C0 C s N := by
  obtain ⟨l, c, ls, cs, r, t, h1, h2, h3, h4, h5⟩ := h
  exact ⟨l, c, ls, cs, r, t, h1, h2, by omega, h4, h5⟩
def mixB : List CS := match b__law_mixed with
  | _ :: _ :: _ :: .forS _ _ _ b :: _ => b
  | _ => []
def cellB : List CS := match mixB with
  | _ :: .forS _ _ _ b :: _ => b
  | _ => []
theorem cells_loop {G : G3} {ex : Kxs} {c : Addr} {D : EndsC} {p : Int} {y0 y1 y2 : Option L3.D} (hp : 0 < p) (hp2 : p < 2147483648) (C : CH)
    (hK : ∀ (z : Int) (y5 : Option L3.D), z.natAbs < 2 ^ 63 → D.nx [y0, y1, y2, some (.int p), some (.int z), y5] C) {zs : List L3.D} (hc : LsC C c zs) : ∀ (cs : List Int) (z : Int) (y5 : Option L3.D), z.natAbs < 2 ^ 63 →
      forL (hT (.nm 5)) (rdSs G ex cellB) (fun C => LsC C c zs) D (cs.map L3.D.int) [y0, y1, y2, some (.int p), some (.int z), y5] C
  | [], z, y5, hz => ⟨hc, hK z y5 hz⟩
  | k :: cs, z, y5, hz => by
    refine ⟨hc, _, rfl, ?_⟩
    simp only [cellB, mixB, b__law_mixed]
    rw [rdSs_cons]
    simp_arith []
    have a1 := Int.fmod_nonneg_of_pos (z * 48271 + k) hp
    have a2 := Int.fmod_lt_of_pos (z * 48271 + k) hp
    exact ⟨.inr ⟨by decide, by decide⟩, by omega, cells_loop hp hp2 C hK hc cs _ _ (by omega)⟩
/-- one round of the blend -/
theorem mix_loop {G : G3} {ex : Kxs} {C0 C : CH} {s l c q : Addr} {ls cs : List Int} {r t : Int} {D : EndsC} {qs : List L3.D} (h : StAt C0 C s l c ls cs r t) (hq : LsC C q qs) (ht : 0 ≤ t) (ht2 : t ≤ 2 ^ 40)
    (hK : ∀ (z : Int) (y3 y4 y5 : Option L3.D), D.nx [some (.ref s), some (.int t), some (.int z), y3, y4, y5] C) : ∀ (ps : List Int) (z : Int) (y3 y4 y5 : Option L3.D), (∀ p ∈ ps, 0 < p ∧ p < 2147483648) →
      forL (hT (.nm 3)) (rdSs G ex mixB) (fun C => LsC C q qs) D (ps.map L3.D.int) [some (.ref s), some (.int t), some (.int z), y3, y4, y5] C
  | [], z, y3, y4, y5, _ => ⟨hq, hK z y3 y4 y5⟩
  | p :: ps, z, y3, y4, y5, hp => by
    obtain ⟨p1, p2⟩ := hp p List.mem_cons_self
    refine ⟨hq, _, rfl, ?_⟩
    simp only [mixB, b__law_mixed]
    rw [rdSs_cons]
    simp_arith []
    have d1 : 0 ≤ p.fdiv 17 := by rw [Int.fdiv_eq_ediv_of_nonneg _ (by decide)]; omega
    have d2 : p.fdiv 17 ≤ p := by rw [Int.fdiv_eq_ediv_of_nonneg _ (by decide)]; omega
    refine ⟨.inl ⟨by decide, by decide⟩, ⟨by decide, by decide⟩, ?_⟩
    rw [rdSs_cons]
    simp_arith [sFor, iSeq, ix_cells h]
    refine ⟨_, h.cells, cells_loop p1 p2 C (fun z' y5' hz' => ?_) h.cells cs _ _ (by omega)⟩
    dsimp only
    rw [rdSs_cons]
    simp_arith []
    exact ⟨.inr ⟨by decide, by decide⟩, ⟨by decide, by decide, by omega⟩, by omega, mix_loop h hq ht ht2 hK ps _ _ _ _ fun x hx => hp x (List.mem_cons_of_mem _ hx)⟩
theorem mixed_ok {n : Nat} {C0 C : CH} {s l c : Addr} {ls cs : List Int} {r t : Int} {Q : Kv} {E : Kx} (h : StAt C0 C s l c ls cs r t) (ht : 0 ≤ t) (ht2 : t + 1 ≤ 2 ^ 40) (hq : ∀ (z : Int) C', StAt C0 C' s l c ls cs r (t + 1) → Q (.int z) C') : W (n + 1) i__law_mixed [.ref s] C Q E := by
  rw [W__law_mixed]
  unfold b__law_mixed
  rw [rdSs_cons]
  simp_arith [ix_turn h]
  rw [rdSs_cons]
  simp_arith []
  refine set_turn h.at_ ?_
  have h2 := h.put (r' := r) (t' := t + 1)
  generalize cup C s (.dic (stK l c r (t + 1))) = C2 at h2
  rw [rdSs_cons]
  simp_arith []
  rw [rdSs_cons]
  simp_arith [sFor, iSeq, oLst]
  intro p hp
  refine mix_loop (ps := [2147483629, 2147483587, 2147483579, 2147483563, 2147483549]) (h2.new hp) cup_same (by omega) ht2 (fun z y3 y4 y5 => ?_) 0 _ _ _ (by decide)
  dsimp only
  rw [rdSs_cons]
  simp_arith []
  exact ⟨_, Sub.refl, hq _ _ (h2.new hp)⟩
theorem take_ok {n N : Nat} {C0 C : CH} {s : Addr} {size : Int} {Q : Kv} {E : Kx} (h : St C0 C s (N + 1)) (h1 : 1 ≤ size) (h2 : size < 1073741824) (hq : ∀ k C', 0 ≤ k → k < size → St C0 C' s N → Q (.int k) C') : W (n + 2) i__law_take [.ref s, .int size] C Q E := by
  rw [W__law_take]
  unfold b__law_take
  rw [rdSs_cons]
  obtain ⟨l, c, ls, cs, r, t, h, ht, htN, hl, hc⟩ := h
  have tail : ∀ (ls : List Int) (r t : Int) C, StAt C0 C s l c ls cs r t → 0 ≤ t → t + N ≤ 2 ^ 40 → (ls.length : Int) ≤ 1000 → rdSs (GG (n + 1)) (exN E) (b__law_take.drop 1) (endN Q) [some (.ref s), some (.int size), none] C := by
    intro ls r t C h ht htN hl
    simp only [b__law_take, List.drop]
    rw [rdSs_cons]
    simp_arith [ix_rest h]
    refine ⟨by omega, ?_⟩
    rw [rdSs_cons]
    simp_arith [ix_rest h]
    refine ⟨⟨by omega, by omega⟩, set_rest h.at_ ?_⟩
    rw [rdSs_cons]
    simp_arith []
    exact ⟨_, Sub.refl, hq _ _ (Int.fmod_nonneg_of_pos _ (by omega)) (Int.fmod_lt_of_pos _ (by omega)) ⟨l, c, ls, cs, _, t, h.put, ht, htN, hl, hc⟩⟩
  simp_arith [ix_rest h]
  by_cases h0 : r = 0
  · rw [if_pos (decide_eq_true h0), rdSs_cons]
    simp_arith [ix_large h, oLst]
    intro p hp
    refine ints_ne (cup_old hp h.large) cup_same ?_
    have h' := h.new (o := .lst []) hp
    cases ls with
    | nil =>
      simp_arith [List.isEmpty, GG_call]
      refine mixed_ok (n := n) h' ht (by omega) fun z C' h' => ?_
      refine set_rest h'.at_ ?_
      exact tail _ _ _ _ h'.put (by omega) (by omega) hl
    | cons z zs =>
      simp_arith [List.isEmpty, ix_large h']
      refine ⟨isLst_of h'.large, ?_⟩
      refine ⟨l, _, 0, 0, .int z, rfl, rfl, h'.large, by decide, by decide, ?_, rfl, ?_⟩
      · show seqIndex? 0 _ = some 0
        simp [seqIndex?]
      · have h2 : StAt C0 (cup (cup C p (.lst [])) l (.lst (zs.map L3.D.int))) s l c zs cs r t := h'.putL
        refine set_rest h2.at_ ?_
        have h3 := h2.put (r' := z) (t' := t)
        simp only [List.length_cons] at hl
        exact tail _ _ _ _ h3 ht (by omega) (by omega)
  · rw [if_neg (by simp [h0])]
    exact tail _ _ _ _ h ht (by omega) hl
theorem pick_ok {n N : Nat} {C0 C : CH} {s p : Addr} {xs : List D} {Q : Kv} {E : Kx} (h : St C0 C s (N + 1)) (hp : C0 p = some (.lst xs)) (h1 : 1 ≤ xs.length) (h2 : xs.length < 1000000) (hq : ∀ d C', d ∈ xs → St C0 C' s N → Q d C') : W (n + 3) i__law_pick [.ref s, .ref p] C Q E := by
  rw [W__law_pick]
  unfold b__law_pick
  have hC : C p = some (.lst xs) := by obtain ⟨l, c, ls, cs, r, t, h, _⟩ := h; exact h.sub _ _ hp
  simp_arith! [hC, GG_call]
  refine take_ok h (by omega) (by omega) fun k C' k1 k2 h' => ?_
  have hC' : C' p = some (.lst xs) := by obtain ⟨l, c, ls, cs, r, t, h', _⟩ := h'; exact h'.sub _ _ hp
  obtain ⟨j, rfl⟩ : ∃ j : Nat, k = j := ⟨k.toNat, by omega⟩
  have hj : j < xs.length := by omega
  refine oIxA_lst hC' (atI_nat (List.getElem?_eq_getElem hj)) ⟨C', Sub.refl, hq _ _ (List.getElem_mem hj) h'⟩
theorem pick_str {n N : Nat} {C0 C : CH} {s : Addr} {z : Str} {Q : Kv} {E : Kx} (h : St C0 C s (N + 1)) (h1 : 1 ≤ z.length) (h2 : z.length < 1000000) (hq : ∀ c C', c ∈ z.cps.toList → St C0 C' s N → Q (.str ⟨#[c]⟩) C') : W (n + 3) i__law_pick [.ref s, .str z] C Q E := by
  rw [W__law_pick]
  unfold b__law_pick
  have hs : z.length ≤ sizeLine := by have : 1000000 ≤ sizeLine := (by decide); omega
  simp_arith! [GG_call]
  refine ⟨hs, ?_⟩
  refine take_ok h (by omega) (by omega) fun k C' k1 k2 h' => ?_
  obtain ⟨j, rfl⟩ : ∃ j : Nat, k = j := ⟨k.toNat, by omega⟩
  rw [len_cps] at k2
  have hj : j < z.cps.toList.length := by omega
  rw [oIxA_str]
  exact ⟨hs, _, atI_nat (List.getElem?_eq_getElem hj), C', Sub.refl, hq _ _ (List.getElem_mem hj) h'⟩

theorem St.alloc {C0 C : CH} {s p : Addr} {N : Nat} {o : CO} (h : St C0 C s N) (hp : C p = none) : St (cup C0 p o) (cup C p o) s N := by
  obtain ⟨l, c, ls, cs, r, t, h, h2⟩ := h
  have ne : ∀ q u, C q = some u → q ≠ p := fun q u e z => by rw [z, hp] at e; cases e
  refine ⟨l, c, ls, cs, r, t, ⟨cup_old hp h.at_, cup_old hp h.large, cup_old hp h.cells, fun a u e => ?_, ?_, ?_, ?_, h.lc⟩, h2⟩
  · by_cases ha : a = p
    · subst ha; rw [cup_same] at e ⊢; exact e
    · rw [cup_ne ha] at e ⊢; exact h.sub a u e
  · rw [cup_ne (ne _ _ h.at_)]; exact h.s0
  · rw [cup_ne (ne _ _ h.large)]; exact h.l0
  · rw [cup_ne (ne _ _ h.cells)]; exact h.c0
/-- what was made meanwhile is forgotten -/
theorem St.drop {C0 C1 C : CH} {s : Addr} {N : Nat} (h : St C1 C s N) (hs : Sub C0 C1) : St C0 C s N := by
  obtain ⟨l, c, ls, cs, r, t, h, h2⟩ := h
  have no : ∀ q, C1 q = none → C0 q = none := fun q e => by
    cases e2 : C0 q with
    | none => rfl
    | some u => rw [hs _ _ e2] at e; cases e
  exact ⟨l, c, ls, cs, r, t, ⟨h.at_, h.large, h.cells, hs.trans h.sub, no _ h.s0, no _ h.l0, no _ h.c0, h.lc⟩, h2⟩
theorem St.subC {C0 C : CH} {s : Addr} {N : Nat} (h : St C0 C s N) : Sub C0 C := by
  obtain ⟨l, c, ls, cs, r, t, h, h2⟩ := h
  exact h.sub
theorem St.no {C0 C : CH} {s p : Addr} {N : Nat} (h : St C0 C s N) (hp : C p = none) : C0 p = none := by
  cases e : C0 p with
  | none => rfl
  | some u => rw [h.subC _ _ e] at hp; cases hp
theorem St.le {C0 C : CH} {s : Addr} {M N : Nat} (h : St C0 C s N) (hm : M ≤ N) : St C0 C s M := St.less (k := N - M) (by rw [show M + (N - M) = N by omega]; exact h)
theorem St.sub {C0 C C' : CH} {s : Addr} {N : Nat} (h : St C0 C s N) (k : Sub C C') : St C0 C' s N := by
  obtain ⟨l, c, ls, cs, r, t, h, h2⟩ := h
  exact ⟨l, c, ls, cs, r, t, ⟨k _ _ h.at_, k _ _ h.large, k _ _ h.cells, h.sub.trans k, h.s0, h.l0, h.c0, h.lc⟩, h2⟩
theorem begin_ok {n : Nat} {ns : List Int} {C0 : CH} {Q : Kv} {E : Kx} (hl : ns.length ≤ 63) (hq : ∀ s C', St C0 C' s 1000000 → Q (.ref s) C') : W (n + 1) i__law_begin [.rls (ns.map D.int)] C0 Q E := by
  rw [W__law_begin]
  unfold b__law_begin
  rw [rdSs_cons]
  have h63 : (64 : Nat) ≤ sizeLine := by decide
  simp_arith [cLc, iSeq]
  refine lcL_if D.int (fun z : Int => D.int (z - 10 ^ 18)) (fun z => decide ((10 : Int) ^ 18 ≤ z)) trivial ns (fun z _ => ⟨_, rfl, fun Q' hQ => ?_, fun Q' hQ => ?_⟩) (by omega) ?_
  · simp_arith! [wipe3]
    exact ⟨⟨by decide, by decide, by decide⟩, hQ⟩
  · simp_arith! [wipe3]
    exact ⟨⟨by decide, by decide, by decide⟩, hQ⟩
  intro l hll
  have em2 : ((ns.filter fun z => decide ((10 : Int) ^ 18 ≤ z)).map fun z : Int => D.int (z - 10 ^ 18)) = ((ns.filter fun z => decide ((10 : Int) ^ 18 ≤ z)).map fun z : Int => z - 10 ^ 18).map D.int := by rw [List.map_map]; rfl
  rw [em2]
  generalize hls : ((ns.filter fun z => decide ((10 : Int) ^ 18 ≤ z)).map fun z : Int => z - 10 ^ 18) = ls
  have hlsl : ls.length ≤ 63 := by
    have := List.length_filter_le (fun z => decide ((10 : Int) ^ 18 ≤ z)) ns
    rw [← hls, List.length_map]
    omega
  rw [rdSs_cons]
  simp_arith [cDic, cPrs]
  refine ⟨_, _, rfl, SqC_rls.mpr rfl, fun c hcn => ?_⟩
  refine ⟨stK l c 0 0, rfl, rfl, by show 4 ≤ 15; decide, fun s hs => ⟨_, Sub.refl, hq _ _ ?_⟩⟩
  have e : dicOf (stK l c 0 0) = stK l c 0 0 := rfl
  rw [e]
  have no : ∀ (C : CH) (a b : Addr) (o : CO), cup C b o a = none → C a = none := fun C a b o h => by
    by_cases hab : a = b
    · subst hab; rw [cup_same] at h; cases h
    · rw [cup_ne hab] at h; exact h
  have hlc : l ≠ c := fun z => by rw [← z, cup_same] at hcn; cases hcn
  have hc0 := no _ _ _ _ hcn
  have hs0 := no _ _ _ _ (no _ _ _ _ hs)
  refine ⟨l, c, ls, ns, 0, 0, ⟨cup_same, cup_old hs (cup_old hcn cup_same), cup_old hs cup_same, ?_, hs0, hll, hc0, hlc⟩, by omega, by omega, by omega, by omega⟩
  exact ((sub_new hll).trans (sub_new hcn)).trans (sub_new hs)
/-- an own object of the base is written -/
theorem St.write {C0 C : CH} {s p : Addr} {N : Nat} {o o' : CO} (h : St (cup C0 p o) C s N) (hp : C0 p = none) : St (cup C0 p o') (cup C p o') s N := by
  obtain ⟨l, c, ls, cs, r, t, h, h2⟩ := h
  have ne : ∀ q, cup C0 p o q = none → q ≠ p ∧ C0 q = none := fun q e => by
    by_cases z : q = p
    · subst z; rw [cup_same] at e; cases e
    · rw [cup_ne z] at e; exact ⟨z, e⟩
  obtain ⟨n1, m1⟩ := ne _ h.s0
  obtain ⟨n2, m2⟩ := ne _ h.l0
  obtain ⟨n3, m3⟩ := ne _ h.c0
  refine ⟨l, c, ls, cs, r, t, ⟨by rw [cup_ne n1]; exact h.at_, by rw [cup_ne n2]; exact h.large, by rw [cup_ne n3]; exact h.cells, fun a u e => ?_, by rw [cup_ne n1]; exact m1, by rw [cup_ne n2]; exact m2, by rw [cup_ne n3]; exact m3, h.lc⟩, h2⟩
  by_cases z : a = p
  · subst z; rw [cup_same] at e ⊢; exact e
  · rw [cup_ne z] at e ⊢
    exact h.sub a u (by rw [cup_ne z]; exact e)
theorem sub_cup {C0 C1 : CH} {q : Addr} {o : CO} (h : Sub C0 C1) : Sub (cup C0 q o) (cup C1 q o) := fun a u e => by
  by_cases z : a = q
  · subst z; rw [cup_same] at e ⊢; exact e
  · rw [cup_ne z] at e ⊢; exact h _ _ e
theorem Sub.no {C0 C : CH} {p : Addr} (h : Sub C0 C) (hp : C p = none) : C0 p = none := by
  cases e : C0 p with
  | none => rfl
  | some u => rw [h _ _ e] at hp; cases hp
theorem add_lists {C : CH} {a b : Addr} {xs ys : List D} {Q : Kv} (ha : C a = some (.lst xs)) (hb : C b = some (.lst ys)) (hl : xs.length + ys.length ≤ sizeLine) (q : ∀ p, C p = none → Q (.ref p) (cup C p (.lst (xs ++ ys)))) : oAddA (.ref a) (.ref b) C Q := ⟨xs, ys, ha, hb, hl, q⟩
theorem mul_bool {C : CH} {a : Addr} {xs : List D} {b : Bool} {Q : Kv} (ha : C a = some (.lst xs)) (hl : xs.length ≤ 1000) (q : ∀ p, C p = none → Q (.ref p) (cup C p (.lst (if b then xs else [])))) : oMulA (.ref a) (.int (if b then 1 else 0)) C Q := by
  have hsl : 1000000 ≤ sizeLine := by decide
  cases b with
  | true =>
    refine ⟨xs, ha, by decide, by decide, by simp; omega, fun p hp => ?_⟩
    have := q p hp
    simpa using this
  | false =>
    refine ⟨xs, ha, by decide, by decide, by simp, fun p hp => ?_⟩
    have := q p hp
    simpa using this
/-- what was made meanwhile belongs to the base -/
theorem St.up {C0 C C' : CH} {s : Addr} {N : Nat} (h : St C0 C s N) (k : Sub C C') : ∃ C0', Sub C0 C0' ∧ St C0' C' s N ∧ ∀ a u, C a = none → C' a = some u → C0' a = some u := by
  obtain ⟨l, c, ls, cs, r, t, h, h2⟩ := h
  refine ⟨fun a => match C a with | none => C' a | some _ => C0 a, fun a u e => ?_, ⟨l, c, ls, cs, r, t, ⟨k _ _ h.at_, k _ _ h.large, k _ _ h.cells, fun a u e => ?_, ?_, ?_, ?_, h.lc⟩, h2⟩, fun a u e e2 => ?_⟩
  · have := h.sub _ _ e
    simp only [this]; exact e
  · cases e2 : C a with
    | none => rw [e2] at e; exact e
    | some w => rw [e2] at e; exact k _ _ (h.sub _ _ e)
  · simp only [h.at_]; exact h.s0
  · simp only [h.large]; exact h.l0
  · simp only [h.cells]; exact h.c0
  · simp only [e]; exact e2
theorem St.grow {B C : CH} {s p : Addr} {N : Nat} {o : CO} (h : St B C s N) (hp : C p = none) : ∃ B', Sub B B' ∧ B' p = some o ∧ St B' (cup C p o) s N := ⟨cup B p o, sub_new (h.no hp), cup_same, h.alloc hp⟩
theorem St.put {B C : CH} {s p : Addr} {N : Nat} {u o : CO} (h : St B C s N) (hp : B p = some u) : St (cup B p o) (cup C p o) s N := by
  obtain ⟨l, c, ls, cs, r, t, h, h2⟩ := h
  have ne : ∀ q, B q = none → q ≠ p := fun q e z => by rw [z, hp] at e; cases e
  refine ⟨l, c, ls, cs, r, t, ⟨by rw [cup_ne (ne _ h.s0)]; exact h.at_, by rw [cup_ne (ne _ h.l0)]; exact h.large, by rw [cup_ne (ne _ h.c0)]; exact h.cells, fun a v e => ?_, by rw [cup_ne (ne _ h.s0)]; exact h.s0, by rw [cup_ne (ne _ h.l0)]; exact h.l0, by rw [cup_ne (ne _ h.c0)]; exact h.c0, h.lc⟩, h2⟩
  by_cases z : a = p
  · subst z; rw [cup_same] at e ⊢; exact e
  · rw [cup_ne z] at e ⊢; exact h.sub a v e

/-! blocks as data -/
theorem blT_append : ∀ xs ys : List St1, blT (xs ++ ys) = blT xs ++ blT ys
  | [], ys => rfl
  | x :: xs, ys => by rw [List.cons_append, blT, blT_append xs ys, blT, List.cons_append]
theorem ds_append (xs ys : List T) : T.ds (xs ++ ys) = T.ds xs ++ T.ds ys := by simp [T.ds_map]
theorem cntL_append : ∀ xs ys : List St1, cntL (xs ++ ys) = cntL xs + cntL ys
  | [], ys => by simp [cntL]
  | x :: xs, ys => by rw [List.cons_append, cntL, cntL_append xs ys, cntL]; omega
theorem blDp_append : ∀ xs ys : List St1, blDp (xs ++ ys) = max (blDp xs) (blDp ys)
  | [], ys => by
    have : 1 ≤ blDp ys := by cases ys <;> simp only [blDp] <;> omega
    simp only [List.nil_append, blDp]; omega
  | x :: xs, ys => by rw [List.cons_append, blDp, blDp_append xs ys, blDp]; omega
def bds (b : List St1) : List D := T.ds (blT b)
theorem bds_append (xs ys : List St1) : bds (xs ++ ys) = bds xs ++ bds ys := by rw [bds, blT_append, ds_append]; rfl
theorem bds_cons (s : St1) (xs : List St1) : bds (s :: xs) = s.t.d :: bds xs := rfl
theorem bds_len (b : List St1) : (bds b).length = b.length := by rw [bds, T.ds_length, blT_len]
theorem iff_d {q : Qu} {a b : List St1} : (St1.iff q a b).t.d = .tup [.str "if", q.t.d, .tup (bds a), .tup (bds b)] := by simp only [St1.t, T.d, T.ds]; rfl
theorem forr_d {v : T} {a b : List St1} : (St1.forr v a b).t.d = .tup [.str "for", v.d, .tup (bds a), .tup (bds b)] := by simp only [St1.t, T.d, T.ds]; rfl

/-! programs: what is right can be looked at -/
theorem nm_good {z : Str} (h : isNm z = true) : goodNm z := by
  have h0 := h
  unfold isNm at h0
  cases hz : z.cps.toList with
  | nil => rw [hz] at h0; cases h0
  | cons c r =>
    rw [hz] at h0
    simp only [Bool.and_eq_true, decide_eq_true_eq, List.all_eq_true] at h0
    have hl : z.length = r.length + 1 := by rw [len_cps, hz]; rfl
    exact good_chars hz h0.2.1 (fun x hx => h0.2.2 x (List.mem_cons_of_mem _ hx)) (by omega)
theorem meas_inv : ∀ (r : Nat) (t : T) (q : Int × Int), meas r t = some q → ∃ v : Vv, t = v.t ∧ v.good ∧ v.h ≤ r ∧ v.top ≤ 3
  | r, .int i, q, e => by
    have h : 1 ≤ i ∧ i ≤ 3 := by
      cases r <;> (simp only [meas] at e; split at e; · assumption
                   · cases e)
    exact ⟨.item i, rfl, h.1, by simp only [Vv.h]; omega, h.2⟩
  | r + 1, .tup [h, a], q, e => by
    simp only [meas] at e
    split at e
    · rename_i hn
      obtain ⟨q', e', _⟩ := Option.map_eq_some_iff.mp e
      obtain ⟨v, rfl, g, hh, ht⟩ := meas_inv r a q' e'
      cases h with
      | str z => exact ⟨.app1 z v, rfl, ⟨nm_good hn, g⟩, by simp only [Vv.h]; omega, ht⟩
      | _ => cases hn
    · cases e
  | r + 1, .tup [h, a, b], q, e => by
    simp only [meas] at e
    split at e
    · rename_i hn
      cases ea : meas r a with
      | none => rw [ea] at e; simp [both2] at e
      | some qa =>
        cases eb : meas r b with
        | none => rw [ea, eb] at e; simp [both2] at e
        | some qb =>
          obtain ⟨v, rfl, g, hh, ht⟩ := meas_inv r a qa ea
          obtain ⟨w, rfl, k, kh, kt⟩ := meas_inv r b qb eb
          cases h with
          | str z => exact ⟨.app2 z v w, rfl, ⟨nm_good hn, g, k⟩, by simp only [Vv.h]; split <;> omega, by simp only [Vv.top]; split <;> omega⟩
          | _ => cases hn
    · cases e
  | 0, .tup _, _, e => by simp [meas] at e
  | _ + 1, .tup [], _, e => by simp [meas] at e
  | _ + 1, .tup [_], _, e => by simp [meas] at e
  | _ + 1, .tup (_ :: _ :: _ :: _ :: _), _, e => by simp [meas] at e
  | 0, .non, _, e => by simp [meas] at e
  | 0, .bl _, _, e => by simp [meas] at e
  | 0, .str _, _, e => by simp [meas] at e
  | _ + 1, .non, _, e => by simp [meas] at e
  | _ + 1, .bl _, _, e => by simp [meas] at e
  | _ + 1, .str _, _, e => by simp [meas] at e
/-- a term of the size of a program's -/
structure TermU (v : Vv) : Prop where
  good : v.good
  h : v.h ≤ 4
  top : v.top ≤ 3
theorem askP_inv {t : T} {lv : Int} {vs : List T} (e : askP t lv vs = true) : ∃ v : Vv, t = v.t ∧ TermU v ∧ v.app = true := by
  cases t with
  | tup xs =>
    cases xs with
    | nil => cases e
    | cons z xs =>
      simp only [askP, Bool.and_eq_true] at e
      obtain ⟨q, hq⟩ := Option.isSome_iff_exists.mp e.1
      obtain ⟨v, e1, g, hh, ht⟩ := meas_inv _ _ _ hq
      refine ⟨v, e1, ⟨g, hh, ht⟩, ?_⟩
      cases v with
      | item i => cases e1
      | _ => rfl
  | _ => cases e
theorem tok_vv {v : Vv} (g : v.good) : TkT v.t := by
  refine ⟨(ok_vv v g).1, fun xs e => ?_⟩
  cases v with
  | item i => cases e
  | app1 z a => cases e; simp
  | app2 z a b => cases e; simp
theorem askP_tok {t : T} {lv : Int} {vs : List T} (e : askP t lv vs = true) : TkT t := by
  obtain ⟨v, rfl, u, _⟩ := askP_inv e
  exact tok_vv u.good
theorem useP_tok {t : T} {lv : Int} {vs : List T} (e : useP t lv vs = true) : TkT t := by
  by_cases hn : isNum t = true
  · cases t with
    | int i => exact ⟨rfl, fun xs e => nomatch e⟩
    | _ => cases hn
  · rw [useP_not (by simpa using hn), Bool.and_eq_true] at e
    obtain ⟨q, hq⟩ := Option.isSome_iff_exists.mp e.1
    obtain ⟨v, rfl, g, _⟩ := meas_inv _ _ _ hq
    exact tok_vv g
theorem word_tok {t : T} (e : isWord t = true) : TkT t := by
  cases t with
  | str z =>
    have h : isWd z = true := e
    unfold isWd at h
    simp only [Bool.and_eq_true, decide_eq_true_eq, List.all_eq_true] at h
    exact ⟨(wd_chars h.1 h.2.1 h.2.2).2, fun xs e => nomatch e⟩
  | _ => cases e
theorem flag_ok {fl : List Str} {t : T} (e : flagP fl t = true) : okT t = true := by
  cases t with
  | str z =>
    simp only [flagP, Bool.and_eq_true] at e
    exact ok_nm (nm_good e.1)
  | _ => cases e
mutual
theorem stV_ok {fl : List Str} : ∀ (s : St1) (lv : Int) (vs : List T), stV fl s lv vs = true → cntS s ≤ 1000 → s.ok
  | .call v, lv, vs, e, _ => askP_tok e
  | .emit v, lv, vs, e, _ => by
    simp only [stV, Bool.or_eq_true] at e
    exact e.elim word_tok useP_tok
  | .set v, lv, vs, e, _ => flag_ok e
  | .clear v, lv, vs, e, _ => flag_ok e
  | .brk, lv, vs, e, _ => trivial
  | .cont, lv, vs, e, _ => trivial
  | .iff q a b, lv, vs, e, hc => by
    simp only [stV, Bool.and_eq_true] at e
    simp only [cntS] at hc
    refine ⟨?_, ⟨loV_ok a lv vs e.2.2.1 (by omega), by omega⟩, loV_ok b lv vs e.2.2.2 (by omega), by omega⟩
    cases q with
    | ask v => exact askP_tok (vs := vs) e.1
    | flag v => exact flag_ok e.1
  | .forr v a b, lv, vs, e, hc => by
    simp only [stV, Bool.and_eq_true] at e
    simp only [cntS] at hc
    exact ⟨askP_tok e.1, ⟨loV_ok a (lv + 1) vs e.2.2.1 (by omega), by omega⟩, loV_ok b lv vs e.2.2.2 (by omega), by omega⟩
theorem loV_ok {fl : List Str} : ∀ (b : List St1) (lv : Int) (vs : List T), loV fl b lv vs = true → cntL b ≤ 1000 → blOk b
  | [], lv, vs, _, _ => trivial
  | s :: r, lv, vs, e, hc => by
    simp only [loV, Bool.and_eq_true] at e
    simp only [cntL] at hc
    exact ⟨stV_ok s lv vs e.1 (by omega), loV_ok r lv _ e.2.2 (by omega)⟩
end
theorem cntD_nd (zs : List Str) (h : zs.Nodup) : ∀ i, i ≤ zs.length → L3S.cntD zs i = i
  | 0, _ => rfl
  | i + 1, hi => by
    have ih := cntD_nd zs h i (by omega)
    unfold L3S.cntD
    have hlt : i < zs.length := by omega
    have e : zs.getD i Str.empty = zs[i] := by simp [List.getD, hlt]
    have nm : ¬ zs[i] ∈ zs.take i := by
      intro hm
      obtain ⟨j, hj, ej⟩ := List.getElem_of_mem hm
      have hji : j < i := by simp at hj; omega
      rw [List.getElem_take] at ej
      have := (List.getElem_inj h).mp ej
      omega
    rw [e, if_neg nm, ih]
theorem flags_arP {fl : List Str} (h : FlOk fl) (hl : fl.length ≤ 40) : arP fl = true := by
  unfold arP
  rw [cntD_nd fl h.nd _ (Nat.le_refl _)]
  simp only [Bool.and_eq_true, decide_eq_true_eq, and_true, List.all_eq_true]
  exact ⟨by omega, fun z hz => (h.good z hz).1⟩

theorem cut_hi {ds : List D} {k : Nat} (h : k ≤ ds.length) : cutD ds none (some (k : Int)) = ds.take k := by
  have e0 : HT.sIx ds.length 0 none = 0 := rfl
  have e1 : HT.sIx ds.length ds.length (some (k : Int)) = k := by
    rw [HT.sIx_nat]; omega
  unfold cutD
  rw [e0, e1]
  simp
theorem cut_lo {ds : List D} {k : Nat} (h : k ≤ ds.length) : cutD ds (some (k : Int)) none = ds.drop k := by
  have e0 : HT.sIx ds.length 0 (some (k : Int)) = k := by
    rw [HT.sIx_nat]; omega
  have e1 : HT.sIx ds.length ds.length none = ds.length := rfl
  unfold cutD
  rw [e0, e1]
  rw [List.take_of_length_le (by simp)]
theorem cut_mid {ds : List D} {k l : Nat} (h : k ≤ l) (hl : l ≤ ds.length) : cutD ds (some (k : Int)) (some (l : Int)) = (ds.drop k).take (l - k) := by
  have e0 : HT.sIx ds.length 0 (some (k : Int)) = k := by
    rw [HT.sIx_nat]; omega
  have e1 : HT.sIx ds.length ds.length (some (l : Int)) = l := by
    rw [HT.sIx_nat]; omega
  unfold cutD
  rw [e0, e1]

/-! k05: a statement put ahead in a block -/
inductive PutI (s0 : St1) : List St1 → List St1 → Prop
  | here (b : List St1) : PutI s0 b (s0 :: b)
  | iffA (pre post : List St1) (q : Qu) {a a' : List St1} (b : List St1) : PutI s0 a a' → PutI s0 (pre ++ .iff q a b :: post) (pre ++ .iff q a' b :: post)
  | iffB (pre post : List St1) (q : Qu) (a : List St1) {b b' : List St1} : PutI s0 b b' → PutI s0 (pre ++ .iff q a b :: post) (pre ++ .iff q a b' :: post)
  | forA (pre post : List St1) (v : T) {a a' : List St1} (b : List St1) : PutI s0 a a' → PutI s0 (pre ++ .forr v a b :: post) (pre ++ .forr v a' b :: post)
  | forB (pre post : List St1) (v : T) (a : List St1) {b b' : List St1} : PutI s0 b b' → PutI s0 (pre ++ .forr v a b :: post) (pre ++ .forr v a b' :: post)
/-- a statement that may stand everywhere -/
structure Free (s0 : St1) : Prop where
  v : ∀ fl lv vs, stV fl s0 lv vs = true
  e : isEnd s0 = false
  n : ∀ vs, nextK vs s0 = vs
  d : s0.dp = 0
  c : cntS s0 = 0
theorem free_word {z : Str} (h : isWd z = true) : Free (.emit (.str z)) := ⟨fun fl lv vs => by
  have : isWord (.str z) = true := h
  simp only [stV, this, Bool.true_or], rfl, fun _ => rfl, rfl, rfl⟩
theorem pre_both {fl : List Str} {lv : Int} {pre post : List St1} {x y : St1} {vs : List T} (hx : ∀ vs, stV fl x lv vs = true → stV fl y lv vs = true) (he : isEnd x = false) (hy : isEnd y = false) (hn : ∀ vs, nextK vs y = nextK vs x) (h : loV fl (pre ++ x :: post) lv vs = true) : loV fl (pre ++ y :: post) lv vs = true := by
  rw [loV_append, Bool.and_eq_true] at h ⊢
  refine ⟨h.1, ?_⟩
  have h2 := h.2
  simp only [loV, he, hy, Bool.false_and, Bool.not_false, Bool.true_and, Bool.and_eq_true, hn] at h2 ⊢
  exact ⟨hx _ h2.1, h2.2⟩
theorem PutI.lo {fl : List Str} {s0 : St1} (f : Free s0) {b b' : List St1} (h : PutI s0 b b') : ∀ (lv : Int) (vs : List T), loV fl b lv vs = true → loV fl b' lv vs = true := by
  induction h with
  | here b => intro lv vs h; simp only [loV, f.v, f.e, f.n, h, Bool.false_and, Bool.not_false, Bool.and_self]
  | @iffA pre post q a a' b _ ih =>
    intro lv vs h
    refine pre_both (x := (.iff q a b)) (y := (.iff q a' b)) (fun us e => ?_) rfl rfl (fun _ => rfl) h
    simp only [stV, Bool.and_eq_true] at e ⊢
    exact ⟨e.1, e.2.1, ih _ _ e.2.2.1, e.2.2.2⟩
  | @iffB pre post q a b b' _ ih =>
    intro lv vs h
    refine pre_both (x := (.iff q a b)) (y := (.iff q a b')) (fun us e => ?_) rfl rfl (fun _ => rfl) h
    simp only [stV, Bool.and_eq_true] at e ⊢
    exact ⟨e.1, e.2.1, e.2.2.1, ih _ _ e.2.2.2⟩
  | @forA pre post q a a' b _ ih =>
    intro lv vs h
    refine pre_both (x := (.forr q a b)) (y := (.forr q a' b)) (fun us e => ?_) rfl rfl (fun _ => rfl) h
    simp only [stV, Bool.and_eq_true] at e ⊢
    exact ⟨e.1, e.2.1, ih _ _ e.2.2.1, e.2.2.2⟩
  | @forB pre post q a b b' _ ih =>
    intro lv vs h
    refine pre_both (x := (.forr q a b)) (y := (.forr q a b')) (fun us e => ?_) rfl rfl (fun _ => rfl) h
    simp only [stV, Bool.and_eq_true] at e ⊢
    exact ⟨e.1, e.2.1, e.2.2.1, ih _ _ e.2.2.2⟩
theorem dp1 (b : List St1) : 1 ≤ blDp b := by cases b <;> simp only [blDp] <;> omega
theorem PutI.dp {s0 : St1} (f : Free s0) {b b' : List St1} (h : PutI s0 b b') : blDp b' = blDp b := by
  induction h with
  | here b => have := dp1 b; simp only [blDp, f.d]; omega
  | iffA pre post q b _ ih => simp only [blDp_append, blDp, St1.dp, ih]
  | iffB pre post q b _ ih => simp only [blDp_append, blDp, St1.dp, ih]
  | forA pre post q b _ ih => simp only [blDp_append, blDp, St1.dp, ih]
  | forB pre post q b _ ih => simp only [blDp_append, blDp, St1.dp, ih]
theorem PutI.cnt {s0 : St1} (f : Free s0) {b b' : List St1} (h : PutI s0 b b') : b'.length + cntL b' = b.length + cntL b + 1 := by
  induction h with
  | here b => simp only [List.length_cons, cntL, f.c]; omega
  | iffA pre post q b _ ih => simp only [List.length_append, List.length_cons, cntL_append, cntL, cntS]; omega
  | iffB pre post q b _ ih => simp only [List.length_append, List.length_cons, cntL_append, cntL, cntS]; omega
  | forA pre post q b _ ih => simp only [List.length_append, List.length_cons, cntL_append, cntL, cntS]; omega
  | forB pre post q b _ ih => simp only [List.length_append, List.length_cons, cntL_append, cntL, cntS]; omega
theorem size_app (xs ys : List T) : sizeOf (xs ++ ys) + 1 = sizeOf xs + sizeOf ys := by
  induction xs with
  | nil => simp; omega
  | cons x xs ih => simp only [List.cons_append, List.cons.sizeOf_spec]; omega
theorem PutI.size {s0 : St1} {b b' : List St1} (h : PutI s0 b b') : sizeOf (blT b) < sizeOf (blT b') := by
  have key : ∀ (pre post : List St1) (x y : St1), sizeOf x.t < sizeOf y.t → sizeOf (blT (pre ++ x :: post)) < sizeOf (blT (pre ++ y :: post)) := fun pre post x y h => by
    rw [blT_append, blT_append]
    have e1 := size_app (blT pre) (blT (x :: post))
    have e2 := size_app (blT pre) (blT (y :: post))
    simp only [blT, List.cons.sizeOf_spec] at e1 e2 ⊢
    omega
  induction h with
  | here b => simp only [blT, List.cons.sizeOf_spec]; omega
  | iffA pre post q b _ ih => refine key _ _ _ _ ?_; simp only [St1.t, T.tup.sizeOf_spec, List.cons.sizeOf_spec]; omega
  | iffB pre post q b _ ih => refine key _ _ _ _ ?_; simp only [St1.t, T.tup.sizeOf_spec, List.cons.sizeOf_spec]; omega
  | forA pre post q b _ ih => refine key _ _ _ _ ?_; simp only [St1.t, T.tup.sizeOf_spec, List.cons.sizeOf_spec]; omega
  | forB pre post q b _ ih => refine key _ _ _ _ ?_; simp only [St1.t, T.tup.sizeOf_spec, List.cons.sizeOf_spec]; omega

/-! what is shown -/
theorem so_iff {z : Str} : PyData.strOk z = true ↔ ∀ c ∈ z.cps.toList, c < 1114112 := by
  show z.cps.all (· < 0x110000) = true ↔ _
  rw [← Array.all_toList, List.all_eq_true]
  simp only [decide_eq_true_eq]
theorem so_app {a b : Str} (ha : PyData.strOk a = true) (hb : PyData.strOk b = true) : PyData.strOk (a ++ b) = true := by
  rw [so_iff] at *
  intro c hc
  rw [show (a ++ b).cps.toList = a.cps.toList ++ b.cps.toList from TL.tl_append a b] at hc
  rcases List.mem_append.mp hc with h | h
  · exact ha c h
  · exact hb c h
theorem so_join {s : Str} (hs : PyData.strOk s = true) : ∀ ts : List Str, (∀ t ∈ ts, PyData.strOk t = true) → PyData.strOk (Str.join s ts) = true
  | [], _ => show PyData.strOk Str.empty = true by decide +kernel
  | [x], h => h x List.mem_cons_self
  | x :: y :: r, h => so_app (so_app (h x List.mem_cons_self) hs) (so_join hs (y :: r) fun t ht => h t (List.mem_cons_of_mem _ ht))
theorem ch_lt (c : Char) : c.toNat < 1114112 := by
  have := c.valid
  rcases this with h | ⟨_, h⟩
  · have : c.toNat < 55296 := h
    omega
  · exact h
theorem so_char {q c : Nat} (hc : c < 1114112) : ∀ x ∈ Builtin.Str.reprChar q c, x < 1114112 := by
  have hex : ∀ k, ∀ x ∈ List.replicate (k - ((Nat.toDigits 16 c).map Char.toNat).length) 48 ++ (Nat.toDigits 16 c).map Char.toNat, x < 1114112 := fun k x hx => by
    rcases List.mem_append.mp hx with h | h
    · have := List.eq_of_mem_replicate h; omega
    · obtain ⟨d, _, rfl⟩ := List.mem_map.mp h
      exact ch_lt d
  unfold Builtin.Str.reprChar
  dsimp only
  repeat' split
  all_goals intro x hx
  all_goals first
    | (simp only [List.mem_cons, List.not_mem_nil, or_false] at hx; rcases hx with rfl | rfl <;> omega)
    | (simp only [List.mem_cons, List.not_mem_nil, or_false] at hx; omega)
    | (rcases List.mem_append.mp hx with h | h
       · simp only [List.mem_cons, List.not_mem_nil, or_false] at h; rcases h with rfl | rfl <;> omega
       · exact hex _ x h)
theorem so_fold {q : Nat} : ∀ (l : List Nat) (acc : Array Nat), (∀ c ∈ l, c < 1114112) → (∀ c ∈ acc.toList, c < 1114112) → ∀ c ∈ (l.foldl (fun out c => out ++ (Builtin.Str.reprChar q c).toArray) acc).toList, c < 1114112
  | [], acc, _, h => h
  | x :: l, acc, hl, h => so_fold l _ (fun c hc => hl c (List.mem_cons_of_mem _ hc)) fun c hc => by
    rw [Array.toList_append] at hc
    rcases List.mem_append.mp hc with h' | h'
    · exact h c h'
    · exact so_char (hl x List.mem_cons_self) c h'
theorem so_repr {z : Str} (h : PyData.strOk z = true) : PyData.strOk (reprText z) = true := by
  rw [so_iff] at *
  have hq : reprQuote z < 1114112 := by
    unfold reprQuote
    split <;> omega
  intro c hc
  unfold reprText at hc
  rw [← Array.foldl_toList] at hc
  rw [Array.toList_push] at hc
  rcases List.mem_append.mp hc with h' | h'
  · refine so_fold _ _ h (fun c hc => ?_) c h'
    have : c = reprQuote z := by simpa using hc
    rw [this]; exact hq
  · rw [List.mem_singleton.mp h']; exact hq
/-- what is small enough to be shown -/
structure Shows (t : T) (w : Nat) : Prop where
  can : t.p.showable = true
  short : t.p.leavesShort 8 = true
  wt : t.p.weight ≤ w
  so : PyData.strOk t.p.shown = true
structure ShowsL (ts : List T) (w : Nat) : Prop where
  can : PyData.showableAll (T.pl ts) = true
  short : PyData.leavesShortAll 8 (T.pl ts) = true
  wt : PyData.weightAll (T.pl ts) ≤ w
  so : ∀ x ∈ PyData.shownAll (T.pl ts), PyData.strOk x = true
theorem ShowsL.nil : ShowsL [] 0 := ⟨rfl, rfl, Nat.le_refl _, fun _ h => nomatch h⟩
theorem ShowsL.cons {t : T} {ts : List T} {w v : Nat} (h : Shows t w) (hs : ShowsL ts v) : ShowsL (t :: ts) (w + 1 + v) := by
  refine ⟨?_, ?_, ?_, fun x hx => ?_⟩
  · simp only [T.pl, PyData.showableAll, h.can, hs.can, Bool.and_self]
  · simp only [T.pl, PyData.leavesShortAll, h.short, hs.short, Bool.and_self]
  · simp only [T.pl, PyData.weightAll]
    have := h.wt
    have := hs.wt
    omega
  · simp only [T.pl, PyData.shownAll] at hx
    rcases List.mem_cons.mp hx with e | hx
    · rw [e]; exact h.so
    · exact hs.so x hx
theorem ShowsL.tup {ts : List T} {w : Nat} (h : ShowsL ts w) : Shows (.tup ts) w := by
  refine ⟨h.can, h.short, h.wt, ?_⟩
  show PyData.strOk (tupleText (PyData.shownAll (T.pl ts))) = true
  unfold tupleText
  refine so_app (so_app (by decide +kernel) (so_join (by decide +kernel) _ h.so)) ?_
  split <;> decide +kernel
theorem Shows.le {t : T} {w v : Nat} (h : Shows t w) (hv : w ≤ v) : Shows t v := ⟨h.can, h.short, Nat.le_trans h.wt hv, h.so⟩
theorem shows_nm {z : Str} (h : goodNm z) : Shows (.str z) 8 := by
  refine ⟨rfl, ?_, ?_, so_repr h.2.2⟩
  · show (z.cps.toList.all fun c => decide (c < 16 ^ 8)) = true
    have := so_iff.mp h.2.2
    rw [List.all_eq_true]
    intro c hc
    have := this c hc
    exact decide_eq_true (by omega)
  · show z.cps.size ≤ 8
    exact h.2.1
theorem shows_item {i : Int} (h1 : 1 ≤ i) (h3 : i ≤ 3) : Shows (.int i) 2 := by
  have : i = 1 ∨ i = 2 ∨ i = 3 := by omega
  rcases this with rfl | rfl | rfl <;> exact ⟨by decide +kernel, by decide +kernel, by decide +kernel, by decide +kernel⟩
theorem shows_vv : ∀ v : Vv, v.good → v.top ≤ 3 → Shows v.t (12 * v.size)
  | .item i, g, h => (shows_item g h).le (by simp only [Vv.size]; omega)
  | .app1 z a, g, h => by
    have := ((ShowsL.nil.cons (shows_vv a g.2 h)).cons (shows_nm g.1)).tup
    simp only [Vv.t, Vv.size] at *
    exact this.le (by omega)
  | .app2 z a b, g, h => by
    have ta : a.top ≤ 3 := by simp only [Vv.top] at h; split at h <;> omega
    have tb : b.top ≤ 3 := by simp only [Vv.top] at h; split at h <;> omega
    have := (((ShowsL.nil.cons (shows_vv b g.2.2 tb)).cons (shows_vv a g.2.1 ta)).cons (shows_nm g.1)).tup
    simp only [Vv.t, Vv.size] at *
    exact this.le (by omega)
theorem shows_non : Shows .non 0 := ⟨by decide +kernel, by decide +kernel, by decide +kernel, by decide +kernel⟩
theorem shows_wd {z : Str} (h : isWd z = true) (ok : okT (.str z) = true) : Shows (.str z) 8 := by
  have so : PyData.strOk z = true := by
    simp only [okT, Bool.and_eq_true] at ok
    exact ok.2
  have l8 : z.length ≤ 8 := by
    simp only [isWd, Bool.and_eq_true, decide_eq_true_eq] at h
    exact h.2.1
  refine ⟨rfl, ?_, l8, so_repr so⟩
  show (z.cps.toList.all fun c => decide (c < 16 ^ 8)) = true
  have := so_iff.mp so
  rw [List.all_eq_true]
  intro c hc
  have := this c hc
  exact decide_eq_true (by omega)
theorem repr_T {t : T} {w : Nat} {C : CH} {Q : Kv} (s : Shows t w) (hw : w ≤ 40000) (hd : t.p.depth ≤ 350) (hq : Q (.str t.p.shown) C) : oRepr [t.d] C Q := by
  have hl := PyData.shown_le 8 (Nat.le_refl _) t.p s.short
  have hw' := s.wt
  have hsl : (2000000 : Nat) ≤ sizeLine := by decide
  refine ⟨_, _, rfl, t.snap C, s.can, ?_, by omega, hq⟩
  omega
theorem so_from0 : ∀ (ts : List Str) (k : Nat) (acc : Str), PyData.strOk acc = true → (∀ t ∈ ts, PyData.strOk t = true) → PyData.strOk (textFrom k acc ts) = true
  | [], _, acc, h, _ => h
  | t :: ts, k, acc, h, hs => by
    refine so_from0 ts (k + 1) _ (so_app (so_app h ?_) (hs t List.mem_cons_self)) fun x hx => hs x (List.mem_cons_of_mem _ hx)
    split <;> decide +kernel
/-- the text of a list -/
theorem repr_L {ts : List T} {w : Nat} {C : CH} {p : Addr} {Q : Kv} (s : ShowsL ts w) (hw : w ≤ 60000) (hd : ∀ t ∈ ts, okT t = true ∧ t.p.depth ≤ 300) (hp : C p = some (.lst (ts.map T.d))) (hq : PyData.strOk (PyData.list (T.pl ts)).shown = true → Q (.str (PyData.list (T.pl ts)).shown) C) : oRepr [.ref p] C Q := by
  have hsl : (16000000 : Nat) ≤ sizeLine := by decide
  have hc : (PyData.list (T.pl ts)).showable = true := s.can
  have hs : (PyData.list (T.pl ts)).leavesShort 8 = true := s.short
  have hw' : (PyData.list (T.pl ts)).weight ≤ 60000 := by have := s.wt; exact Nat.le_trans this hw
  have hl := PyData.shown_le 8 (Nat.le_refl _) _ hs
  have hdd : (PyData.list (T.pl ts)).depth ≤ 350 := by
    have := (depths_le (m := 300) (ts := ts) hd).2
    show PyData.depthAll _ + 1 ≤ 350
    omega
  refine ⟨_, _, rfl, Snap.lst hp (by rw [← T.ds_map]; exact T.snaps C ts), hc, ?_, hdd, hq ?_⟩
  · omega
  · show PyData.strOk (listText (PyData.shownAll (T.pl ts))) = true
    unfold listText
    exact so_app (so_from0 _ _ _ (by decide +kernel) s.so) (by decide +kernel)

/-! == of trees without bools -/
mutual
def plain : T → Bool
  | .int _ => true
  | .str _ => true
  | .tup xs => plains xs
  | _ => false
def plains : List T → Bool
  | [] => true
  | x :: xs => plain x && plains xs
end
mutual
theorem eqv_plain : ∀ (t u : T), plain t = true → plain u = true → PyData.eqv t.p u.p = true → t = u
  | .int i, .int j, _, _, h => by
    simp only [T.p, PyData.eqv, beq_iff_eq] at h
    rw [h]
  | .int i, .str z, _, _, h => by simp [T.p, PyData.eqv] at h
  | .int i, .tup ys, _, _, h => by simp [T.p, PyData.eqv] at h
  | .str z, .str w, _, _, h => by
    simp only [T.p, PyData.eqv, beq_iff_eq] at h
    rw [h]
  | .str z, .int i, _, _, h => by simp [T.p, PyData.eqv] at h
  | .str z, .tup ys, _, _, h => by simp [T.p, PyData.eqv] at h
  | .tup xs, .tup ys, h1, h2, h => by
    simp only [plain] at h1 h2
    simp only [T.p, PyData.eqv] at h
    rw [eqvs_plain xs ys h1 h2 h]
  | .tup xs, .int i, _, _, h => by simp [T.p, PyData.eqv] at h
  | .tup xs, .str z, _, _, h => by simp [T.p, PyData.eqv] at h
  | .non, _, h, _, _ => by simp [plain] at h
  | .bl b, _, h, _, _ => by simp [plain] at h
  | .int i, .non, _, h, _ => by simp [plain] at h
  | .int i, .bl b, _, h, _ => by simp [plain] at h
  | .str i, .non, _, h, _ => by simp [plain] at h
  | .str i, .bl b, _, h, _ => by simp [plain] at h
  | .tup i, .non, _, h, _ => by simp [plain] at h
  | .tup i, .bl b, _, h, _ => by simp [plain] at h
theorem eqvs_plain : ∀ (ts us : List T), plains ts = true → plains us = true → PyData.eqvAll (T.pl ts) (T.pl us) = true → ts = us
  | [], [], _, _, _ => rfl
  | [], _ :: _, _, _, h => by simp [T.pl, PyData.eqvAll] at h
  | _ :: _, [], _, _, h => by simp [T.pl, PyData.eqvAll] at h
  | t :: ts, u :: us, h1, h2, h => by
    simp only [plains, Bool.and_eq_true] at h1 h2
    simp only [T.pl, PyData.eqvAll, Bool.and_eq_true] at h
    rw [eqv_plain t u h1.1 h2.1 h.1, eqvs_plain ts us h1.2 h2.2 h.2]
end
theorem vv_plain : ∀ v : Vv, plain v.t = true
  | .item i => rfl
  | .app1 z a => by simp [Vv.t, plain, plains, vv_plain a]
  | .app2 z a b => by simp [Vv.t, plain, plains, vv_plain a, vv_plain b]

/-! what a valid block is as data -/
structure Nice (t : T) (d w : Nat) : Prop where
  ok : okT t = true
  pl : plain t = true
  dp : t.p.depth ≤ d
  sh : Shows t w
structure NiceL (ts : List T) (d w : Nat) : Prop where
  ok : okTs ts = true
  pl : plains ts = true
  dp : PyData.depthAll (T.pl ts) ≤ d
  sh : ShowsL ts w
theorem NiceL.nil : NiceL [] 0 0 := ⟨rfl, rfl, Nat.le_refl _, ShowsL.nil⟩
theorem NiceL.cons {t : T} {ts : List T} {d e w v : Nat} (h : Nice t d w) (hs : NiceL ts e v) : NiceL (t :: ts) (max d e) (w + 1 + v) := by
  refine ⟨?_, ?_, ?_, ShowsL.cons h.sh hs.sh⟩
  · simp only [okTs, h.ok, hs.ok, Bool.and_self]
  · simp only [plains, h.pl, hs.pl, Bool.and_self]
  · simp only [T.pl, PyData.depthAll]
    have := h.dp
    have := hs.dp
    omega
theorem NiceL.tup {ts : List T} {d w : Nat} (h : NiceL ts d w) : Nice (.tup ts) (d + 1) w := ⟨h.ok, h.pl, by have := h.dp; simp only [T.p, PyData.depth]; omega, h.sh.tup⟩
theorem Nice.le {t : T} {d w e v : Nat} (h : Nice t d w) (hd : d ≤ e) (hw : w ≤ v) : Nice t e v := ⟨h.ok, h.pl, Nat.le_trans h.dp hd, h.sh.le hw⟩
theorem NiceL.le {t : List T} {d w e v : Nat} (h : NiceL t d w) (hd : d ≤ e) (hw : w ≤ v) : NiceL t e v := ⟨h.ok, h.pl, Nat.le_trans h.dp hd, ⟨h.sh.can, h.sh.short, Nat.le_trans h.sh.wt hw, h.sh.so⟩⟩
theorem nice_vv {v : Vv} (g : v.good) (h : v.h ≤ 4) (t : v.top ≤ 3) : Nice v.t 60 372 := by
  have := vv_size 4 v h
  obtain ⟨a, b, _⟩ := ok_vv v g
  exact ⟨a, vv_plain v, by omega, (shows_vv v g t).le (by omega)⟩
theorem nice_ask {v : T} {lv : Int} {vs : List T} (h : askP v lv vs = true) : Nice v 60 372 := by
  obtain ⟨w, rfl, u, _⟩ := askP_inv h
  exact nice_vv u.good u.h u.top
theorem nice_use {v : T} {lv : Int} {vs : List T} (h3 : lv ≤ 3) (h : useP v lv vs = true) : Nice v 60 372 := by
  by_cases hn : isNum v = true
  · cases v with
    | int i =>
      have h' : (decide (1 ≤ i) && decide (i ≤ lv)) = true := h
      simp only [Bool.and_eq_true, decide_eq_true_eq] at h'
      exact ⟨rfl, rfl, by simp [T.p, PyData.depth], (shows_item h'.1 (by omega)).le (by omega)⟩
    | _ => cases hn
  · rw [useP_not (by simpa using hn), Bool.and_eq_true] at h
    obtain ⟨q, hq⟩ := Option.isSome_iff_exists.mp h.1
    obtain ⟨w, rfl, g, hh, ht⟩ := meas_inv _ _ _ hq
    exact nice_vv g hh ht
theorem nice_word {v : T} (h : isWord v = true) : Nice v 0 8 := by
  cases v with
  | str z =>
    have h' : isWd z = true := h
    have ok := (word_tok h).1
    exact ⟨ok, rfl, Nat.le_refl _, shows_wd h' ok⟩
  | _ => cases h
theorem nice_nm {z : Str} (h : goodNm z) : Nice (.str z) 0 8 := ⟨ok_nm h, rfl, Nat.le_refl _, shows_nm h⟩
theorem nice_flag {fl : List Str} {v : T} (h : flagP fl v = true) : Nice v 0 8 := by
  cases v with
  | str z =>
    simp only [flagP, Bool.and_eq_true] at h
    exact nice_nm (nm_good h.1)
  | _ => cases h
theorem nice_kw : ∀ w ∈ (["call", "emit", "break", "continue", "set", "clear", "if", "for", "ask", "flag"] : List Str), Nice (.str w) 0 8 := by
  have h : ∀ w ∈ (["call", "emit", "break", "continue", "set", "clear", "if", "for", "ask", "flag"] : List Str), (PyData.strOk w && (decide (w.length ≤ 8) && isNm w)) = true := by decide +kernel
  intro w hw
  have := h w hw
  simp only [Bool.and_eq_true, decide_eq_true_eq] at this
  exact nice_nm ⟨this.2.2, this.2.1, this.1⟩
theorem nice_two {w : Str} {v : T} {d u : Nat} (hw : Nice (.str w) 0 8) (h : Nice v d u) : Nice (.tup [.str w, v]) (d + 1) (u + 10) :=
  ((NiceL.nil.cons h).cons hw).tup.le (by omega) (by omega)
theorem nice_qu {fl : List Str} {q : Qu} {lv : Int} {vs : List T} (h : quP fl q lv vs = true) : Nice q.t 61 382 := by
  cases q with
  | ask v => exact nice_two (nice_kw _ (by simp)) (nice_ask (vs := vs) h)
  | flag v => exact (nice_two (nice_kw _ (by simp)) (nice_flag h)).le (by omega) (by omega)
mutual
theorem nice_st {fl : List Str} : ∀ (s : St1) (lv : Int) (vs : List T), lv ≤ 3 → stV fl s lv vs = true → Nice s.t (62 + 2 * s.dp) (400 + 410 * cntS s)
  | .call v, lv, vs, h3, e => (nice_two (nice_kw _ (by simp)) (nice_ask (vs := vs) e)).le (by simp only [St1.dp]; omega) (by simp only [cntS]; omega)
  | .emit v, lv, vs, h3, e => by
    simp only [stV, Bool.or_eq_true] at e
    rcases e with e | e
    · exact (nice_two (nice_kw _ (by simp)) (nice_word e)).le (by simp only [St1.dp]; omega) (by simp only [cntS]; omega)
    · exact (nice_two (nice_kw _ (by simp)) (nice_use h3 e)).le (by simp only [St1.dp]; omega) (by simp only [cntS]; omega)
  | .set v, lv, vs, h3, e => (nice_two (nice_kw _ (by simp)) (nice_flag e)).le (by simp only [St1.dp]; omega) (by simp only [cntS]; omega)
  | .clear v, lv, vs, h3, e => (nice_two (nice_kw _ (by simp)) (nice_flag e)).le (by simp only [St1.dp]; omega) (by simp only [cntS]; omega)
  | .brk, lv, vs, h3, e => (NiceL.nil.cons (nice_kw "break" (by simp))).tup.le (by simp only [St1.dp]; omega) (by simp only [cntS]; omega)
  | .cont, lv, vs, h3, e => (NiceL.nil.cons (nice_kw "continue" (by simp))).tup.le (by simp only [St1.dp]; omega) (by simp only [cntS]; omega)
  | .iff q a b, lv, vs, h3, e => by
    simp only [stV, Bool.and_eq_true, decide_eq_true_eq] at e
    have ha := (nice_lo a lv vs h3 e.2.2.1).tup
    have hb := (nice_lo b lv vs h3 e.2.2.2).tup
    have := ((((NiceL.nil.cons hb).cons ha).cons (nice_qu e.1)).cons (nice_kw "if" (by simp))).tup
    exact this.le (by simp only [St1.dp]; omega) (by simp only [cntS]; omega)
  | .forr v a b, lv, vs, h3, e => by
    simp only [stV, Bool.and_eq_true, decide_eq_true_eq] at e
    have ha := (nice_lo a (lv + 1) vs e.2.1 e.2.2.1).tup
    have hb := (nice_lo b lv vs h3 e.2.2.2).tup
    have := ((((NiceL.nil.cons hb).cons ha).cons (nice_ask e.1)).cons (nice_kw "for" (by simp))).tup
    exact this.le (by simp only [St1.dp]; omega) (by simp only [cntS]; omega)
theorem nice_lo {fl : List Str} : ∀ (b : List St1) (lv : Int) (vs : List T), lv ≤ 3 → loV fl b lv vs = true → NiceL (blT b) (60 + 2 * blDp b) (410 * (b.length + cntL b))
  | [], lv, vs, h3, e => NiceL.nil.le (by omega) (by omega)
  | s :: r, lv, vs, h3, e => by
    simp only [loV, Bool.and_eq_true] at e
    have hs := nice_st s lv vs h3 e.1
    have hr := nice_lo r lv _ h3 e.2.2
    exact (hr.cons hs).le (by simp only [blDp]; omega) (by simp only [List.length_cons, cntL]; omega)
end
theorem nice_flags : ∀ fl : List Str, (∀ z ∈ fl, goodNm z) → NiceL (fl.map T.str) 0 (9 * fl.length)
  | [], _ => NiceL.nil
  | z :: fl, h => ((nice_flags fl fun x hx => h x (List.mem_cons_of_mem _ hx)).cons (nice_nm (h z List.mem_cons_self))).le (by omega) (by simp only [List.length_cons]; omega)
/-! more flags -/
theorem flag_mono {fl fl' : List Str} (h : ∀ z ∈ fl, z ∈ fl') {v : T} (e : flagP fl v = true) : flagP fl' v = true := by
  cases v with
  | str z =>
    simp only [flagP, Bool.and_eq_true, List.any_eq_true, decide_eq_true_eq] at e ⊢
    obtain ⟨h1, x, hx, ex⟩ := e
    exact ⟨h1, x, h x hx, ex⟩
  | _ => cases e
mutual
theorem stV_flags {fl fl' : List Str} (h : ∀ z ∈ fl, z ∈ fl') : ∀ (s : St1) (lv : Int) (vs : List T), stV fl s lv vs = true → stV fl' s lv vs = true
  | .call v, lv, vs, e => e
  | .emit v, lv, vs, e => e
  | .set v, lv, vs, e => flag_mono h e
  | .clear v, lv, vs, e => flag_mono h e
  | .brk, lv, vs, e => rfl
  | .cont, lv, vs, e => rfl
  | .iff q a b, lv, vs, e => by
    simp only [stV, Bool.and_eq_true] at e ⊢
    refine ⟨?_, e.2.1, loV_flags h a lv vs e.2.2.1, loV_flags h b lv vs e.2.2.2⟩
    cases q with
    | ask v => exact e.1
    | flag v => exact flag_mono h e.1
  | .forr v a b, lv, vs, e => by
    simp only [stV, Bool.and_eq_true] at e ⊢
    exact ⟨e.1, e.2.1, loV_flags h a (lv + 1) vs e.2.2.1, loV_flags h b lv vs e.2.2.2⟩
theorem loV_flags {fl fl' : List Str} (h : ∀ z ∈ fl, z ∈ fl') : ∀ (b : List St1) (lv : Int) (vs : List T), loV fl b lv vs = true → loV fl' b lv vs = true
  | [], lv, vs, e => rfl
  | s :: r, lv, vs, e => by
    simp only [loV, Bool.and_eq_true] at e ⊢
    exact ⟨stV_flags h s lv vs e.1, e.2.1, loV_flags h r lv _ e.2.2⟩
end

/-! k05: programs made and compared -/
structure PrV (fl : List Str) (a b : List St1) : Prop where
  f : FlOk fl
  fn : fl.length ≤ 5
  va : loV fl a 1 [] = true
  vb : loV fl b 0 [] = true
  da : blDp a ≤ 7
  db : blDp b ≤ 7
  c : (a.length + cntL a) + (b.length + cntL b) ≤ 60
theorem PrV.prog {fl : List Str} {a b : List St1} (h : PrV fl a b) : progP fl a b = true := by
  have := h.da
  have := h.db
  have := h.c
  have := h.fn
  rw [progP_eq (flags_arP h.f (by omega)) (by omega) (by omega) (by omega), h.va, h.vb]; rfl
theorem PrV.na {fl : List Str} {a b : List St1} (h : PrV fl a b) : Nice (.tup (blT a)) 100 25000 := by
  have := h.da
  have := h.c
  exact (nice_lo a 1 [] (by decide) h.va).tup.le (by omega) (by omega)
theorem PrV.nb {fl : List Str} {a b : List St1} (h : PrV fl a b) : Nice (.tup (blT b)) 100 25000 := by
  have := h.db
  have := h.c
  exact (nice_lo b 0 [] (by decide) h.vb).tup.le (by omega) (by omega)
theorem PrV.nf {fl : List Str} {a b : List St1} (h : PrV fl a b) : Nice (.tup (fl.map T.str)) 100 100 := by
  have := h.fn
  exact (nice_flags fl h.f.good).tup.le (by omega) (by omega)
theorem Nice.deep {t : T} {w : Nat} (h : Nice t 100 w) : deepOk t.p = true := by
  unfold deepOk
  rw [canLay_ok _ h.ok, decide_eq_true (by have := h.dp; omega)]; rfl
theorem Nice.eq_iff {t u : T} {d e w v : Nat} (h : Nice t d w) (k : Nice u e v) : PyData.eqv t.p u.p = true ↔ t = u := ⟨eqv_plain t u h.pl k.pl, fun e => by rw [e]; exact eqv_refl u⟩
theorem attr_b {C : CH} {p : Addr} {fl : List Str} {a b : List St1} {σ : Env3} {x : CTE} {Q : Kv} (hx : ∀ Q' : Kv, Q' (.ref p) C → x σ C Q') (h : C p = some (PrO fl a b)) (q : Q (T.tup (blT a)).d C) : cAttr (Str.ofString "body") (fun x => x ∈ [3]) x σ C Q := hx _ ⟨p, _, _, _, rfl, h, by decide, rfl, q⟩
theorem attr_o {C : CH} {p : Addr} {fl : List Str} {a b : List St1} {σ : Env3} {x : CTE} {Q : Kv} (hx : ∀ Q' : Kv, Q' (.ref p) C → x σ C Q') (h : C p = some (PrO fl a b)) (q : Q (T.tup (blT b)).d C) : cAttr (Str.ofString "other") (fun x => x ∈ [3]) x σ C Q := hx _ ⟨p, _, _, _, rfl, h, by decide, rfl, q⟩
theorem attr_f {C : CH} {p : Addr} {fl : List Str} {a b : List St1} {σ : Env3} {x : CTE} {Q : Kv} (hx : ∀ Q' : Kv, Q' (.ref p) C → x σ C Q') (h : C p = some (PrO fl a b)) (q : Q (.tup (fl.map D.str)) C) : cAttr (Str.ofString "flags") (fun x => x ∈ [2, 3]) x σ C Q := hx _ ⟨p, _, _, _, rfl, h, by decide, rfl, q⟩
/-- all parts are equal -/
def eqPr (fl : List Str) (a b : List St1) (fl' : List Str) (a' b' : List St1) : Bool := PyData.eqv (T.tup (blT a)).p (T.tup (blT a')).p && (PyData.eqv (T.tup (blT b)).p (T.tup (blT b')).p && PyData.eqv (T.tup (fl.map T.str)).p (T.tup (fl'.map T.str)).p)
theorem eqPr_refl (fl : List Str) (a b : List St1) : eqPr fl a b fl a b = true := by simp only [eqPr, eqv_refl, Bool.and_self]
theorem flags_d (fl : List Str) : (T.tup (fl.map T.str)).d = .tup (fl.map D.str) := by
  simp only [T.d, T.ds_map, List.map_map]; rfl
section
variable {n : Nat} {C : CH} {Q : Kv} {E : Kx} {p q : Addr} {fl fl' : List Str} {a b a' b' : List St1}
theorem pr_eq_ok (h : PrV fl a b) (k : PrV fl' a' b') (hp : C p = some (PrO fl a b)) (hq' : C q = some (PrO fl' a' b')) (hq : Q (.bl (eqPr fl a b fl' a' b')) C) : W (n + 1) i_Program___eq__ [.ref p, .ref q] C Q E := by
  rw [W_Program___eq__]
  unfold b_Program___eq__
  rw [rdSs_cons]
  simp_arith [tyC_ins hq', GG_own]
  rw [rdSs_cons]
  simp_arith []
  have v0 : ∀ Q' : Kv, Q' (.ref p) C → cVar 0 [some (.ref p), some (.ref q)] C Q' := fun Q' h => by simp_arith []; exact h
  have v1 : ∀ Q' : Kv, Q' (.ref q) C → cVar 1 [some (.ref p), some (.ref q)] C Q' := fun Q' h => by simp_arith []; exact h
  refine attr_b v0 hp (attr_b v1 hq' (oEqN_T h.na.deep k.na.deep ⟨_, rfl, ?_⟩))
  unfold eqPr at hq
  cases e1 : PyData.eqv (T.tup (blT a)).p (T.tup (blT a')).p with
  | false =>
    rw [e1] at hq
    exact ⟨C, Sub.refl, hq⟩
  | true =>
    rw [e1] at hq
    refine attr_o v0 hp (attr_o v1 hq' (oEqN_T h.nb.deep k.nb.deep ⟨_, rfl, ?_⟩))
    cases e2 : PyData.eqv (T.tup (blT b)).p (T.tup (blT b')).p with
    | false =>
      rw [e2] at hq
      exact ⟨C, Sub.refl, hq⟩
    | true =>
      rw [e2] at hq
      refine attr_f v0 hp (attr_f v1 hq' ?_)
      rw [← flags_d, ← flags_d]
      exact oEqN_T h.nf.deep k.nf.deep ⟨C, Sub.refl, hq⟩
theorem pr_eq_no {y : D} (hy : plD y) (hp : C p = some (PrO fl a b)) (hq : Q (.bl false) C) : W (n + 1) i_Program___eq__ [.ref p, y] C Q E := by
  rw [W_Program___eq__]
  unfold b_Program___eq__
  rcases hy with rfl | ⟨i, rfl⟩ | ⟨z, rfl⟩ | ⟨ds, rfl⟩
  · simp_arith! [tyC_str, GG_own]
    exact ⟨C, Sub.refl, hq⟩
  · simp_arith! [tyC_str, GG_own]
    exact ⟨C, Sub.refl, hq⟩
  · simp_arith! [tyC_str, GG_own]
    exact ⟨C, Sub.refl, hq⟩
  · simp_arith! [tyC_str, GG_own]
    exact ⟨C, Sub.refl, hq⟩
end

/-! k05: a program against other things -/
section
variable {n : Nat} {C : CH} {Q : Kv} {E : Kx} {p q : Addr} {fl fl' : List Str} {a b a' b' : List St1} {y : D} {f : Bool → Bool}
theorem made (h : PrV fl a b) (hp : C p = none) {K : CH → Prop} (hq : ∀ C', Sub C C' → C' p = some (PrO fl a b) → K C') : W (n + 28) i_Program___init__ [.ref p, .tup (T.ds (blT a)), .tup (T.ds (blT b)), .tup (fl.map D.str)] (cup C p (.ins c_Program [])) (fun v C2 => v = .non ∧ K C2) E := by
  have h1 := h.da
  have h2 := h.db
  have h3 := h.c
  have h4 := h.fn
  refine prog_init (n := n) (d := 7) h.da h.db (loV_ok _ _ _ h.va (by omega)) (loV_ok _ _ _ h.vb (by omega)) (by omega) (by omega) (by omega) (fun z hz => ok_nm (h.f.good z hz)) (by decide) hp (fun _ C' s' hp' => hq C' s' hp') (fun e => ?_)
  rw [h.prog] at e
  cases e
theorem eqX_no1 (hy : plD y) (hp : C p = some (PrO fl a b)) (hq : Q (.bl (f false)) C) : oEqX c_Program (W (n + 1) i_Program___eq__) [.pos 0, .pos 1] f (.ref p) y C Q :=
  .inl ⟨p, _, rfl, hp, hy, pr_eq_no hy hp ⟨false, rfl, hq⟩⟩
theorem eqX_no2 (hy : plD y) (hp : C p = some (PrO fl a b)) (hq : Q (.bl (f false)) C) : oEqX c_Program (W (n + 1) i_Program___eq__) [.pos 0, .pos 1] f y (.ref p) C Q :=
  .inr (.inl ⟨p, _, rfl, hp, hy, pr_eq_no hy hp ⟨false, rfl, hq⟩⟩)
theorem eqO_pr (h : PrV fl a b) (k : PrV fl' a' b') (hp : C p = some (PrO fl a b)) (hq' : C q = some (PrO fl' a' b')) (hq : Q (.bl (f (eqPr fl a b fl' a' b'))) C) : oEqO c_Program (W (n + 1) i_Program___eq__) [.pos 0, .pos 1] f (.ref p) (.ref q) C Q :=
  ⟨p, q, _, _, rfl, rfl, hp, hq', pr_eq_ok h k hp hq' ⟨_, rfl, hq⟩⟩
theorem eqX_pr (h : PrV fl a b) (k : PrV fl' a' b') (hp : C p = some (PrO fl a b)) (hq' : C q = some (PrO fl' a' b')) (hq : Q (.bl (f (eqPr fl a b fl' a' b'))) C) : oEqX c_Program (W (n + 1) i_Program___eq__) [.pos 0, .pos 1] f (.ref p) (.ref q) C Q :=
  .inr (.inr (eqO_pr h k hp hq' hq))
end
/-- another thing -/
def Unl (C : CH) (fl : List Str) (a b : List St1) (y : D) : Prop := plD y ∨ ∃ q fl' a' b', y = .ref q ∧ C q = some (PrO fl' a' b') ∧ PrV fl' a' b' ∧ eqPr fl a b fl' a' b' = false ∧ eqPr fl' a' b' fl a b = false
theorem Unl.sub {C C' : CH} {fl : List Str} {a b : List St1} {y : D} (h : Unl C fl a b y) (k : Sub C C') : Unl C' fl a b y := by
  rcases h with h | ⟨q, fl', a', b', h1, h2, h3⟩
  · exact .inl h
  · exact .inr ⟨q, fl', a', b', h1, k _ _ h2, h3⟩
def unlB : List CS := match b__law_unlike with
  | .forS _ _ _ b :: _ => b
  | _ => []
theorem unl_loop {n : Nat} {ex : Kxs} {Dd : EndsC} {C : CH} {p l : Addr} {all : List D} {fl : List Str} {a b : List St1} (h : PrV fl a b) (hp : C p = some (PrO fl a b)) (hl : C l = some (.lst all)) (hD : ∀ x2, Dd.nx [some (.ref p), some (.ref l), x2] C) :
    ∀ (ds : List D) (x2 : Option D), (∀ y ∈ ds, Unl C fl a b y) → forL (hT (.nm 2)) (rdSs (GG (n + 2)) ex unlB) (fun C => LsC C l all) Dd ds [some (.ref p), some (.ref l), x2] C
  | [], x2, _ => ⟨hl, hD x2⟩
  | y :: ds, x2, hy => by
    refine ⟨hl, _, rfl, ?_⟩
    simp only [unlB, b__law_unlike]
    rw [rdSs_cons]
    simp_arith []
    have fin := unl_loop (n := n) (ex := ex) h hp hl hD ds (some y) fun z hz => hy z (List.mem_cons_of_mem _ hz)
    simp only [unlB, b__law_unlike] at fin
    rcases hy y List.mem_cons_self with k | ⟨q, fl', a', b', rfl, hq', k, e1, e2⟩
    · refine eqX_no1 (n := n) k hp ⟨_, rfl, ?_⟩
      rw [if_neg (by decide)]
      refine eqX_no1 (n := n) k hp ⟨_, rfl, ?_⟩
      rw [if_neg (by decide)]
      refine eqX_no2 (n := n) k hp ⟨_, rfl, ?_⟩
      rw [if_neg (by decide)]
      refine eqX_no2 (n := n) k hp ⟨_, rfl, ?_⟩
      rw [if_neg (by decide)]
      exact fin
    · refine eqX_pr (n := n) h k hp hq' ⟨_, rfl, ?_⟩
      rw [e1, if_neg (by decide)]
      refine eqX_pr (n := n) h k hp hq' ⟨_, rfl, ?_⟩
      rw [e1, if_neg (by decide)]
      refine eqX_pr (n := n) k h hq' hp ⟨_, rfl, ?_⟩
      rw [e2, if_neg (by decide)]
      refine eqX_pr (n := n) k h hq' hp ⟨_, rfl, ?_⟩
      rw [e2, if_neg (by decide)]
      exact fin
theorem unlike_ok {n : Nat} {C : CH} {Q : Kv} {E : Kx} {p l : Addr} {ds : List D} {fl : List Str} {a b : List St1} (h : PrV fl a b) (hp : C p = some (PrO fl a b)) (hl : C l = some (.lst ds)) (hy : ∀ y ∈ ds, Unl C fl a b y) (hq : Q (.bl true) C) : W (n + 3) i__law_unlike [.ref p, .ref l] C Q E := by
  rw [W__law_unlike]
  unfold b__law_unlike
  rw [rdSs_cons]
  simp_arith [sFor, iSeq]
  refine ⟨_, hl, ?_⟩
  refine unl_loop (n := n) h hp hl (fun x2 => ?_) ds _ hy
  dsimp only
  rw [rdSs_cons]
  simp_arith []
  exact ⟨C, Sub.refl, hq⟩

/-! k05: the programs that are otherwise -/
structure Base (fl : List Str) (a b : List St1) : Prop where
  f : FlOk fl
  fn : fl.length ≤ 3
  va : loV fl a 1 [] = true
  vb : loV fl b 0 [] = true
  da : blDp a ≤ 6
  db : blDp b ≤ 6
  c : (a.length + cntL a) + (b.length + cntL b) ≤ 16
section
variable {fl fl' : List Str} {a b a' b' : List St1} {s0 : St1}
theorem Base.pr (h : Base fl a b) : PrV fl a b := ⟨h.f, by have := h.fn; omega, h.va, h.vb, by have := h.da; omega, by have := h.db; omega, by have := h.c; omega⟩
theorem Base.putA (h : Base fl a b) (f : Free s0) (p : PutI s0 a a') : PrV fl a' b :=
  ⟨h.f, by have := h.fn; omega, p.lo f _ _ h.va, h.vb, by rw [p.dp f]; have := h.da; omega, by have := h.db; omega, by have := p.cnt f; have := h.c; omega⟩
theorem Base.putB (h : Base fl a b) (f : Free s0) (p : PutI s0 b b') : PrV fl a b' :=
  ⟨h.f, by have := h.fn; omega, h.va, p.lo f _ _ h.vb, by have := h.da; omega, by rw [p.dp f]; have := h.db; omega, by have := p.cnt f; have := h.c; omega⟩
theorem Base.flags (h : Base fl a b) (k : FlOk fl') (hn : fl'.length ≤ 5) (hs : ∀ z ∈ fl, z ∈ fl') : PrV fl' a b :=
  ⟨k, hn, loV_flags hs _ _ _ h.va, loV_flags hs _ _ _ h.vb, by have := h.da; omega, by have := h.db; omega, by have := h.c; omega⟩
theorem ne_a (h : PrV fl a b) (k : PrV fl' a' b') (n : blT a ≠ blT a') : eqPr fl a b fl' a' b' = false ∧ eqPr fl' a' b' fl a b = false := by
  have e1 : PyData.eqv (T.tup (blT a)).p (T.tup (blT a')).p = false := by
    rw [Bool.eq_false_iff]; intro e; exact n (T.tup.inj ((h.na.eq_iff k.na).mp e))
  have e2 : PyData.eqv (T.tup (blT a')).p (T.tup (blT a)).p = false := by
    rw [Bool.eq_false_iff]; intro e; exact n (T.tup.inj ((k.na.eq_iff h.na).mp e)).symm
  unfold eqPr
  rw [e1, e2]
  exact ⟨rfl, rfl⟩
theorem ne_b (h : PrV fl a b) (k : PrV fl' a' b') (n : blT b ≠ blT b') : eqPr fl a b fl' a' b' = false ∧ eqPr fl' a' b' fl a b = false := by
  have e1 : PyData.eqv (T.tup (blT b)).p (T.tup (blT b')).p = false := by
    rw [Bool.eq_false_iff]; intro e; exact n (T.tup.inj ((h.nb.eq_iff k.nb).mp e))
  have e2 : PyData.eqv (T.tup (blT b')).p (T.tup (blT b)).p = false := by
    rw [Bool.eq_false_iff]; intro e; exact n (T.tup.inj ((k.nb.eq_iff h.nb).mp e)).symm
  unfold eqPr
  rw [e1, e2]
  simp
theorem ne_f (h : PrV fl a b) (k : PrV fl' a' b') (n : fl ≠ fl') : eqPr fl a b fl' a' b' = false ∧ eqPr fl' a' b' fl a b = false := by
  have inj : ∀ xs ys : List Str, xs.map T.str = ys.map T.str → xs = ys := fun xs => by
    induction xs with
    | nil => intro ys e; cases ys with
      | nil => rfl
      | cons y ys => cases e
    | cons x xs ih => intro ys e; cases ys with
      | nil => cases e
      | cons y ys =>
        simp only [List.map_cons, List.cons.injEq, T.str.injEq] at e
        rw [e.1, ih ys e.2]
  have e1 : PyData.eqv (T.tup (fl.map T.str)).p (T.tup (fl'.map T.str)).p = false := by
    rw [Bool.eq_false_iff]; intro e; exact n (inj _ _ (T.tup.inj ((h.nf.eq_iff k.nf).mp e)))
  have e2 : PyData.eqv (T.tup (fl'.map T.str)).p (T.tup (fl.map T.str)).p = false := by
    rw [Bool.eq_false_iff]; intro e; exact n (inj _ _ (T.tup.inj ((k.nf.eq_iff h.nf).mp e))).symm
  unfold eqPr
  rw [e1, e2]
  simp
theorem unl_a {C : CH} {q : Addr} (h : Base fl a b) (f : Free s0) (p : PutI s0 a a') (hq : C q = some (PrO fl a' b)) : Unl C fl a b (.ref q) := by
  have k := h.putA f p
  obtain ⟨e1, e2⟩ := ne_a h.pr k (fun e => by have := p.size; rw [e] at this; omega)
  exact .inr ⟨q, _, _, _, rfl, hq, k, e1, e2⟩
theorem unl_b {C : CH} {q : Addr} (h : Base fl a b) (f : Free s0) (p : PutI s0 b b') (hq : C q = some (PrO fl a b')) : Unl C fl a b (.ref q) := by
  have k := h.putB f p
  obtain ⟨e1, e2⟩ := ne_b h.pr k (fun e => by have := p.size; rw [e] at this; omega)
  exact .inr ⟨q, _, _, _, rfl, hq, k, e1, e2⟩
theorem unl_f {C : CH} {q : Addr} (h : Base fl a b) (k : FlOk fl') (hn : fl'.length ≤ 5) (hs : ∀ z ∈ fl, z ∈ fl') (ne : fl ≠ fl') (hq : C q = some (PrO fl' a b)) : Unl C fl a b (.ref q) := by
  have k := h.flags k hn hs
  obtain ⟨e1, e2⟩ := ne_f h.pr k ne
  exact .inr ⟨q, _, _, _, rfl, hq, k, e1, e2⟩
theorem fresh_fl {z : Str} (h : FlOk fl) (hz : goodNm z) (hn : z ∉ fl) : FlOk (fl ++ [z]) ∧ fl ≠ fl ++ [z] := by
  refine ⟨⟨fun x hx => ?_, ?_⟩, fun e => ?_⟩
  · rcases List.mem_append.mp hx with hx | hx
    · exact h.good x hx
    · rw [List.mem_singleton.mp hx]; exact hz
  · rw [List.nodup_append]
    refine ⟨h.nd, by simp, fun x hx y hy => ?_⟩
    rw [List.mem_singleton.mp hy]
    intro e; rw [e] at hx; exact hn hx
  · have := congrArg List.length e
    simp at this
theorem rot_fl (h : FlOk fl) (h2 : 1 < fl.length) : FlOk (fl.drop 1 ++ fl.take 1) ∧ fl ≠ fl.drop 1 ++ fl.take 1 ∧ (∀ z ∈ fl, z ∈ fl.drop 1 ++ fl.take 1) ∧ (fl.drop 1 ++ fl.take 1).length = fl.length := by
  match fl, h, h2 with
  | x :: y :: r, h, _ =>
    have hnd := h.nd
    simp only [List.nodup_cons, List.mem_cons, not_or] at hnd
    refine ⟨⟨fun z hz => h.good z ?_, ?_⟩, fun e => ?_, fun z hz => ?_, by simp⟩
    · simp only [List.drop_succ_cons, List.drop_zero, List.take_succ_cons, List.take_zero, List.mem_append, List.mem_cons, List.not_mem_nil, or_false] at hz ⊢
      rcases hz with (hz | hz) | hz
      · exact .inr (.inl hz)
      · exact .inr (.inr hz)
      · exact .inl hz
    · simp only [List.drop_succ_cons, List.drop_zero, List.take_succ_cons, List.take_zero]
      rw [List.nodup_append]
      refine ⟨by simp only [List.nodup_cons]; exact hnd.2, by simp, fun u hu w hw => ?_⟩
      rw [List.mem_singleton.mp hw]
      intro e
      rw [e] at hu
      rcases List.mem_cons.mp hu with e | e
      · exact hnd.1.1 e
      · exact hnd.1.2 e
    · simp only [List.drop_succ_cons, List.drop_zero, List.take_succ_cons, List.take_zero, List.cons_append, List.cons.injEq] at e
      exact hnd.1.1 e.1
    · simp only [List.drop_succ_cons, List.drop_zero, List.take_succ_cons, List.take_zero, List.mem_append, List.mem_cons, List.not_mem_nil, or_false] at hz ⊢
      rcases hz with hz | hz | hz
      · exact .inr hz
      · exact .inl (.inl hz)
      · exact .inl (.inr hz)
def abcd : List Str := ["a", "b", "c", "d"]
theorem abcd_good : ∀ z ∈ abcd, goodNm z := by
  have h : ∀ z ∈ abcd, (isNm z && (decide (z.length ≤ 8) && PyData.strOk z)) = true := by decide +kernel
  intro z hz
  have := h z hz
  simp only [Bool.and_eq_true, decide_eq_true_eq] at this
  exact ⟨this.1, this.2.1, this.2.2⟩
theorem abcd_left (h3 : fl.length ≤ 3) : ∃ z r, abcd.filter (fun z => !(fl.any fun x => decide (x = z))) = z :: r ∧ z ∉ fl ∧ z ∈ abcd := by
  cases e : abcd.filter (fun z => !(fl.any fun x => decide (x = z))) with
  | cons z r =>
    have hm : z ∈ abcd.filter (fun z => !(fl.any fun x => decide (x = z))) := by rw [e]; exact List.mem_cons_self
    rw [List.mem_filter] at hm
    refine ⟨z, r, rfl, fun hz => ?_, hm.1⟩
    have : (fl.any fun x => decide (x = z)) = true := List.any_eq_true.mpr ⟨z, hz, decide_eq_true rfl⟩
    rw [this] at hm
    cases hm.2
  | nil =>
    exfalso
    rw [List.filter_eq_nil_iff] at e
    have sub : ∀ z ∈ abcd, z ∈ fl := fun z hz => by
      have := e z hz
      simp only [Bool.not_eq_true, Bool.not_eq_false', List.any_eq_true, decide_eq_true_eq] at this
      obtain ⟨x, hx, rfl⟩ := this
      exact hx
    have nd : abcd.Nodup := by decide +kernel
    have : ∀ (xs ys : List Str), xs.Nodup → (∀ z ∈ xs, z ∈ ys) → xs.length ≤ ys.length := fun xs => by
      induction xs with
      | nil => intro ys _ _; simp
      | cons x xs ih =>
        intro ys hn hs
        rw [List.nodup_cons] at hn
        have hx := hs x List.mem_cons_self
        have := ih (ys.erase x) hn.2 fun z hz => by
          have hzy := hs z (List.mem_cons_of_mem _ hz)
          have hne : z ≠ x := fun e => hn.1 (by rw [← e]; exact hz)
          exact (List.mem_erase_of_ne hne).mpr hzy
        rw [List.length_erase_of_mem hx] at this
        have hp : 0 < ys.length := List.length_pos_of_mem hx
        simp only [List.length_cons]; omega
    have := this abcd fl nd sub
    have h4 : abcd.length = 4 := rfl
    omega
end

/-! k05: _law_put_in walked -/
def isB : St1 → Bool
  | .iff _ _ _ => true
  | .forr _ _ _ => true
  | _ => false
def hdW : St1 → Str
  | .call _ => Str.ofString "call"
  | .emit _ => Str.ofString "emit"
  | .iff _ _ _ => Str.ofString "if"
  | .forr _ _ _ => Str.ofString "for"
  | .brk => Str.ofString "break"
  | .cont => Str.ofString "continue"
  | .set _ => Str.ofString "set"
  | .clear _ => Str.ofString "clear"
theorem hd_at (s : St1) : ∃ r, s.t.d = .tup (.str (hdW s) :: r) := by
  cases s <;> (simp only [St1.t, T.d, T.ds]; exact ⟨_, rfl⟩)
theorem hd_isB (s : St1) : (decide (hdW s = Str.ofString "if") || decide (hdW s = Str.ofString "for")) = isB s := by
  have h : ∀ w ∈ (["call", "emit", "break", "continue", "set", "clear"] : List Str), (decide (w = Str.ofString "if") || decide (w = Str.ofString "for")) = false := by decide +kernel
  cases s with
  | iff q a b => show (decide (Str.ofString "if" = Str.ofString "if") || _) = true; rw [decide_eq_true rfl]; rfl
  | forr q a b => show (_ || decide (Str.ofString "for" = Str.ofString "for")) = true; rw [decide_eq_true rfl, Bool.or_true]
  | _ => exact h _ (by simp [hdW])
theorem hd_so (s : St1) : PyData.strOk (hdW s) = true := by cases s <;> (simp only [hdW]; decide +kernel)
def spots (b : List St1) : List (St1 × Nat) := b.zipIdx.filter fun x => isB x.1
theorem enu_bds (b : List St1) : enuD (bds b) = b.zipIdx.map fun x => D.tup [.int (x.2 : Nat), x.1.t.d] := by
  have : ∀ (b : List St1) (k : Nat), ((bds b).zipIdx k).map (fun p => D.tup [.int (p.2 : Nat), p.1]) = (b.zipIdx k).map fun x => D.tup [.int (x.2 : Nat), x.1.t.d] := fun b => by
    induction b with
    | nil => intro k; rfl
    | cons s b ih => intro k; rw [bds_cons, List.zipIdx_cons, List.zipIdx_cons, List.map_cons, List.map_cons, ih]
  exact this b 0
theorem ints_eq {C : CH} {p r : Addr} {ns : List Int} {Q : Kv} (h : C p = some (.lst (ns.map D.int))) (h2 : C r = some (.lst [])) (q : Q (.bl ns.isEmpty) C) : oEqN id (.ref p) (.ref r) C Q := by
  obtain ⟨d1, d2⟩ := deep_ints ns
  refine ⟨.list (ns.map PyData.int), .list [], .lst h (snap_ints C ns), .lst h2 .nil, ?_, by decide, ?_⟩
  · have e : (PyData.list (ns.map PyData.int)).depth ≤ 350 := by
      show PyData.depthAll _ + 1 ≤ 350
      omega
    unfold deepOk
    rw [decide_eq_true e, Bool.and_true]
    exact d1
  · cases ns with
    | nil => exact q
    | cons j js => exact q
theorem spots_at {b : List St1} {x : St1 × Nat} (h : x ∈ spots b) : isB x.1 = true ∧ ∃ pre post, b = pre ++ x.1 :: post ∧ pre.length = x.2 := by
  unfold spots at h
  rw [List.mem_filter] at h
  obtain ⟨h1, h2⟩ := h
  refine ⟨h2, ?_⟩
  clear h2
  obtain ⟨i, hi, e⟩ := List.getElem_of_mem h1
  rw [List.getElem_zipIdx] at e
  subst e
  have hl : i < b.length := by simpa using hi
  refine ⟨b.take i, b.drop (i + 1), ?_, by simp; omega⟩
  simp only [Nat.zero_add]
  rw [← List.drop_eq_getElem_cons hl, List.take_append_drop]
theorem atI_three {α : Type} {a b c d : α} {r : List α} : L2.atI (a :: b :: c :: d :: r) 3 = some d := L2.atI_nat (j := 3) rfl
structure MkB (s0 : St1) (mk : List St1 → List St1 → St1) (hd x1 : D) : Prop where
  d : ∀ a b, (mk a b).t.d = .tup [hd, x1, .tup (bds a), .tup (bds b)]
  A : ∀ pre post a a' b, PutI s0 a a' → PutI s0 (pre ++ mk a b :: post) (pre ++ mk a' b :: post)
  B : ∀ pre post a b b', PutI s0 b b' → PutI s0 (pre ++ mk a b :: post) (pre ++ mk a b' :: post)
  dp : ∀ a b, (mk a b).dp = max (blDp a) (blDp b)
  c : ∀ a b, cntS (mk a b) = (a.length + cntL a) + (b.length + cntL b)
theorem mk_of {s0 s : St1} (h : isB s = true) : ∃ mk hd x1 a b, s = mk a b ∧ MkB s0 mk hd x1 := by
  cases s with
  | iff q a b => exact ⟨fun a b => .iff q a b, _, _, a, b, rfl, ⟨fun a b => iff_d, fun pre post a a' b h => .iffA pre post q b h, fun pre post a b b' h => .iffB pre post q a h, fun a b => by simp only [St1.dp], fun a b => by simp only [cntS]⟩⟩
  | forr v a b => exact ⟨fun a b => .forr v a b, _, _, a, b, rfl, ⟨fun a b => forr_d, fun pre post a a' b h => .forA pre post v b h, fun pre post a b b' h => .forB pre post v a h, fun a b => by simp only [St1.dp], fun a b => by simp only [cntS]⟩⟩
  | _ => cases h
theorem put_ok {s0 : St1} : ∀ (d n N : Nat) (b : List St1) (B C : CH) (s : Addr) (Q : Kv) (E : Kx), blDp b ≤ d → b.length + cntL b ≤ 500 → St B C s (N + 3 * d) → (∀ b' C', PutI s0 b b' → St B C' s N → Q (.tup (bds b')) C') →
    W (n + d + 6) i__law_put_in [.ref s, .tup (bds b), s0.t.d] C Q E := by
  intro d
  induction d with
  | zero => intro n N b B C s Q E hd; have := dp1 b; omega
  | succ d ih =>
    intro n N b B C s Q E hd hc h hq
    have hsl : 1000000 ≤ sizeLine := by decide
    rw [show n + (d + 1) + 6 = (n + d + 6) + 1 by omega, W__law_put_in]
    unfold b__law_put_in
    rw [rdSs_cons]
    simp_arith [cLc, iEnu]
    rw [enu_bds]
    have hzl : b.zipIdx.length = b.length := by simp
    refine lcL_if (fun x : St1 × Nat => D.tup [.int (x.2 : Nat), x.1.t.d]) (fun x => .int (x.2 : Nat)) (fun x => isB x.1) trivial b.zipIdx (fun x _ => ⟨_, rfl, fun Q' hQ => ?_, fun Q' hQ => ?_⟩) (by omega) ?_
    · obtain ⟨r, er⟩ := hd_at x.1
      rw [er]
      simp_arith! [wipe3]
      rw [hd_isB]
      exact hQ
    · simp_arith! [wipe3]
      exact hQ
    intro p hp
    have esp : (b.zipIdx.filter fun x => isB x.1).map (fun x => D.int (x.2 : Nat)) = ((spots b).map fun x => ((x.2 : Nat) : Int)).map D.int := by rw [List.map_map]; rfl
    rw [esp]
    obtain ⟨B1, k1, e1, h1⟩ := h.grow (o := .lst (((spots b).map fun x => ((x.2 : Nat) : Int)).map D.int)) hp
    generalize cup C p (.lst (((spots b).map fun x => ((x.2 : Nat) : Int)).map D.int)) = C1 at h1
    rw [rdSs_cons]
    simp_arith [oLst]
    intro g hg
    have here : ∀ (Dd : EndsC) C' (x3 x4 x5 x6 : Option D), Dd.rt = (fun d C' => ∃ C1, Sub C1 C' ∧ Q d C1) → St B1 C' s N → rdSs (GG (n + d + 6)) (exN E) [.ret (.bin .add (.tup [.var 2]) (.var 1))] Dd [some (.ref s), some (.tup (bds b)), some s0.t.d, x3, x4, x5, x6] C' := fun Dd C' x3 x4 x5 x6 hD h' => by
      rw [rdSs_cons]
      simp_arith []
      rw [hD]
      refine ⟨by rw [bds_len]; omega, C', Sub.refl, ?_⟩
      exact hq (s0 :: b) C' (.here b) (h'.drop k1)
    refine ints_eq (cup_old hg (h1.subC _ _ e1)) cup_same ?_
    have h2 := h1.sub (sub_new (o := .lst []) hg)
    generalize cup C1 g (.lst []) = C2 at h2
    cases hsp : spots b with
    | nil =>
      simp_arith [List.map_nil, List.isEmpty]
      exact here _ _ _ _ _ _ rfl (h2.le (by omega))
    | cons y ys =>
      simp_arith [List.map_cons, List.isEmpty, GG_call]
      refine take_ok (n := n + d + 4) (N := N + 3 * d + 2) (h2.le (by omega)) (by decide) (by decide) fun k C3 w1 w2 h3 => ?_
      simp_arith []
      by_cases hk : k = 0
      · rw [if_pos (decide_eq_true hk)]
        exact here _ _ _ _ _ _ rfl (h3.le (by omega))
      · rw [if_neg (by simp [hk])]
        rw [rdSs_cons]
        simp_arith [GG_call]
        refine pick_ok (n := n + d + 3) (N := N + 3 * d + 1) h3 e1 (by rw [hsp]; simp) (by simp [spots]; exact Nat.lt_of_le_of_lt (List.length_filter_le _ _) (by simp; omega)) fun x C4 hx h4 => ?_
        refine take_ok (n := n + d + 4) (N := N + 3 * d) h4 (by decide) (by decide) fun w C5 w1 w2 h5 => ?_
        rw [List.map_map] at hx
        obtain ⟨y0, hy0, ex⟩ := List.mem_map.mp hx
        have ex' : x = D.int ((y0.2 : Nat) : Int) := ex.symm
        subst ex'
        obtain ⟨hB, pre, post, eb, epre⟩ := spots_at hy0
        obtain ⟨mk, hw, x1, a1, a2, e0, M⟩ := mk_of (s0 := s0) hB
        have h5 := h5.drop k1
        rw [e0] at eb
        have ebd : bds b = bds pre ++ (mk a1 a2).t.d :: bds post := by rw [eb, bds_append, bds_cons]
        have hplen : (bds pre).length = y0.2 := by rw [bds_len, epre]
        have hl : b.length = pre.length + (post.length + 1) := by rw [eb]; simp
        have hcL : cntL b = cntL pre + (cntS (mk a1 a2) + cntL post) := by rw [eb, cntL_append, cntL]
        have hdp := hd
        rw [eb, blDp_append] at hdp
        simp only [blDp] at hdp
        have hdm := M.dp a1 a2
        have hcm := M.c a1 a2
        have hi0 : L2.atI (bds b) ((y0.2 : Nat) : Int) = some (mk a1 a2).t.d := atI_nat (by rw [ebd, ← hplen]; simp)
        simp_arith []
        refine ⟨_, _, ⟨rfl, rfl⟩, ?_⟩
        rw [rdSs_cons]
        simp_arith []
        refine ⟨_, hi0, ?_⟩
        rw [M.d]
        rw [rdSs_cons]
        simp_arith [GG_call]
        have fin : ∀ (st' : St1) (w' : Option D) (C6 : CH), PutI s0 b (pre ++ st' :: post) → St B C6 s N → rdSs (GG (n + d + 6)) (exN E)
            [.ret (.bin .add (.bin .add (.slice (.var 1) none (some (.var 5))) (.tup [.var 4])) (.slice (.var 1) (some (.bin .add (.var 5) (.cst (.int 1)))) none))]
            { nx := fun x C' => ∃ C1, Sub C1 C' ∧ Q D.non C1, rt := fun d C' => ∃ C1, Sub C1 C' ∧ Q d C1 } [some (.ref s), some (.tup (bds b)), some s0.t.d, some (.ref p), some st'.t.d, some (.int (y0.2 : Nat)), w'] C6 := fun st' w' C6 hP h6 => by
          rw [rdSs_cons]
          simp_arith []
          have c1 : cutD (bds b) none (some ((y0.2 : Nat) : Int)) = bds pre := by
            rw [cut_hi (by rw [bds_len]; omega), ebd, ← hplen, List.take_left' rfl]
          have c2 : cutD (bds b) (some (((y0.2 : Nat) : Int) + 1)) none = bds post := by
            rw [show ((y0.2 : Nat) : Int) + 1 = ((y0.2 + 1 : Nat) : Int) by push_cast; rfl, cut_lo (by rw [bds_len]; omega), ebd, ← hplen]
            simp
          rw [c1, c2]
          refine ⟨by rw [bds_len]; omega, by simp [bds_len]; omega, C6, Sub.refl, ?_⟩
          have e : bds pre ++ [st'.t.d] ++ bds post = bds (pre ++ st' :: post) := by rw [bds_append, bds_cons, List.append_assoc]; rfl
          rw [e]
          exact hq _ C6 hP h6
        have hw2 : w = 0 ∨ w = 1 := by omega
        rcases hw2 with e | e <;> subst e
        · refine ⟨_, atI_two, ?_⟩
          rw [show (2 : Int) + 0 + 1 = ((3 : Nat) : Int) from rfl, show (2 : Int) + 0 = ((2 : Nat) : Int) from rfl, cut_hi (by simp), cut_lo (by simp)]
          refine ih n N a1 B C5 s _ _ (by omega) (by omega) h5 fun a' C6 hP h6 => ⟨by simp; omega, by simp; omega, ?_⟩
          have := fin (mk a' a2) (some (.int ((2 : Nat) : Int))) C6 (by rw [eb]; exact M.A pre post a1 a' a2 hP) h6
          rw [M.d] at this
          exact this
        · refine ⟨_, atI_three, ?_⟩
          rw [show (2 : Int) + 1 + 1 = ((4 : Nat) : Int) from rfl, show (2 : Int) + 1 = ((3 : Nat) : Int) from rfl, cut_hi (by simp), cut_lo (by simp)]
          refine ih n N a2 B C5 s _ _ (by omega) (by omega) h5 fun a' C6 hP h6 => ⟨by simp; omega, by simp; omega, ?_⟩
          have := fin (mk a1 a') (some (.int ((3 : Nat) : Int))) C6 (by rw [eb]; exact M.B pre post a1 a2 a' hP) h6
          rw [M.d] at this
          exact this

/-! programs: names and words drawn -/
theorem chars_list {S : List Nat} : ∀ {acc : List D}, (∀ d ∈ acc, ∃ c, c ∈ S ∧ d = .str ⟨#[c]⟩) → ∃ cs : List Nat, acc = cs.map (fun c => D.str ⟨#[c]⟩) ∧ ∀ c ∈ cs, c ∈ S
  | [], _ => ⟨[], rfl, fun _ h => nomatch h⟩
  | a :: acc, hR => by
    obtain ⟨cs, e, h⟩ := chars_list fun d hd => hR d (List.mem_cons_of_mem _ hd)
    obtain ⟨c, hc, e2⟩ := hR a List.mem_cons_self
    refine ⟨c :: cs, by rw [e, e2]; rfl, fun x hx => ?_⟩
    rcases List.mem_cons.mp hx with z | hx
    · rw [z]; exact hc
    · exact h x hx
theorem join_chs {C : CH} {p : Addr} {cs : List Nat} {Q : Kv} (hp : C p = some (.lst (cs.map fun c => D.str ⟨#[c]⟩))) (hl : cs.length ≤ 1000) (q : ∀ z : Str, z.cps.toList = cs → z.length = cs.length → Q (.str z) C) : oJoin (.str (Str.ofString "")) [.ref p] C Q := by
  refine ⟨_, _, cs.map (fun c => (⟨#[c]⟩ : Str)), rfl, rfl, SqC_ref.mpr (by rw [hp, List.map_map]; rfl), ?_, ?_⟩
  · have e1 : ((cs.map fun c => (⟨#[c]⟩ : Str)).map (·.length)).sum = cs.length := by
      clear q hl hp
      induction cs with
      | nil => rfl
      | cons c cs ih =>
        rw [List.map_cons, List.map_cons, List.sum_cons, ih, List.length_cons, show (⟨#[c]⟩ : Str).length = 1 from rfl]
        omega
    rw [e1, show (Str.ofString "").length = 0 from rfl]
    omega
  · have hj := join_chars cs
    exact q _ hj (by rw [len_cps, hj])
theorem lcL_chars {TT : CT} {vs : List Nat} {σ : Env3} {e : CTE} {C0 C : CH} {s : Addr} {N m : Nat} {S : List Nat} {Kq : List D → CH → Prop} (h : St C0 C s (N + m)) (hm : m ≤ 1000) (hK : ∀ (cs : List Nat) C', cs.length = m → (∀ c ∈ cs, c ∈ S) → St C0 C' s N → Kq (cs.map fun c => D.str ⟨#[c]⟩) C')
    (hs : ∀ d ∈ rngD 0 m, ∀ k C, St C0 C s (N + (k + 1)) → ∃ σ2, bindT TT d (wipe3 σ vs) = some σ2 ∧ ∀ Q : Kv, (∀ c C', c ∈ S → St C0 C' s (N + k) → Q (.str ⟨#[c]⟩) C') → e σ2 C Q) : lcL TT vs σ cYes e (fun _ => True) Kq (rngD 0 m) [] C := by
  have hjt : (rngD 0 m).length = m := by simp [rngD]
  refine lcL_run (fun k C => St C0 C s (N + k)) (fun d => ∃ c, c ∈ S ∧ d = .str ⟨#[c]⟩) (fun _ _ _ => trivial) _ [] C ?_ (fun _ h => nomatch h) ?_ ?_ ?_
  · rw [hjt]; exact h
  · rw [hjt]; have : 1000 ≤ sizeLine := (by decide); simp only [List.length_nil]; omega
  · intro acc C3 h3 hla hR
    obtain ⟨cs, hcs, hcl⟩ := chars_list hR
    subst hcs
    simp only [List.length_nil, List.length_map] at hla
    rw [hjt] at hla
    exact hK cs C3 (by omega) hcl h3
  · intro d hd k C3 h3
    obtain ⟨σ2, e1, e2⟩ := hs d hd k C3 h3
    exact ⟨σ2, e1, fun Q hQ => e2 Q fun c C' hc h' => hQ _ _ ⟨c, hc, rfl⟩ h'⟩
theorem name_ok {n N : Nat} {C0 C : CH} {s p : Addr} {first : Str} {words : List Str} {Q : Kv} {E : Kx} (h : St C0 C s (N + 12)) (hp : C0 p = some (.lst (words.map D.str))) (hw : ∀ z ∈ words, goodNm z) (w1 : 1 ≤ words.length) (w2 : words.length < 100)
    (hf : ∀ c ∈ first.cps.toList, c ∈ LET.cps.toList) (f1 : 1 ≤ first.length) (f2 : first.length < 100) (hq : ∀ z C', goodNm z → St C0 C' s N → Q (.str z) C') : W (n + 4) i__law_name [.ref s, .str first, .ref p] C Q E := by
  have hsl : 1000000 ≤ sizeLine := by decide
  rw [W__law_name]
  unfold b__law_name
  rw [rdSs_cons]
  simp_arith [GG_call]
  refine take_ok (n := n + 1) (N := N + 11) h (by decide) (by decide) fun way C1 _ _ h1 => ?_
  simp_arith []
  by_cases c1 : way = 0
  · rw [if_pos (decide_eq_true c1), rdSs_cons]
    simp_arith [GG_call]
    refine pick_ok (n := n) (N := N + 10) h1 hp (by simpa) (by simp; omega) fun d C' hd h' => ?_
    obtain ⟨z, hz, e⟩ := List.mem_map.mp hd
    rw [← e]
    exact ⟨C', Sub.refl, hq _ _ (hw z hz) (h'.less (k := 10))⟩
  · rw [if_neg (by simp [c1])]
    rw [rdSs_cons]
    simp_arith []
    rw [rdSs_cons]
    simp_arith [cLc, iRg1, GG_call, oLst]
    intro q hqn
    refine pick_ok (n := n) (N := N + 10) (h1.alloc hqn) cup_same (by simp) (by simp) fun d C2 hd h2 => ?_
    have h2 := h2.drop (sub_new (h1.no hqn))
    obtain ⟨j, rfl, hj⟩ : ∃ j : Nat, d = .int j ∧ j ≤ 7 := by
      simp only [List.mem_cons, List.not_mem_nil, or_false] at hd
      rcases hd with e | e | e | e | e
      · exact ⟨0, e, by omega⟩
      · exact ⟨0, e, by omega⟩
      · exact ⟨1, e, by omega⟩
      · exact ⟨2, e, by omega⟩
      · exact ⟨7, e, by omega⟩
    refine ⟨_, rfl, by omega, by omega, ?_⟩
    refine lcL_chars (S := SIG.cps.toList) (N := N + 1) (m := j) (h2.le (by omega)) (by omega) ?_ ?_
    · intro cs C3 hcl hcs h3 r hr
      have hst := h3.alloc (o := .lst (cs.map fun c => D.str ⟨#[c]⟩)) hr
      rw [rdSs_cons]
      simp_arith [GG_call]
      refine pick_str (n := n) (N := N) hst f1 (by omega) fun c C4 hc h4 => ?_
      refine ⟨⟨_, rfl⟩, ?_⟩
      have hpC : C4 r = some (.lst (cs.map fun c => D.str ⟨#[c]⟩)) := h4.subC _ _ cup_same
      refine join_chs hpC (by omega) fun z hz hzl => ?_
      have hc1 : (⟨#[c]⟩ : Str).length = 1 := rfl
      refine ⟨by omega, C4, Sub.refl, hq _ _ (good_chars (c := c) (cs := cs) ?_ (hf c hc) hcs (by omega)) (h4.drop (sub_new (h3.no hr)))⟩
      have := TL.tl_append (⟨#[c]⟩ : Str) z
      exact this.trans (by show [c] ++ z.cps.toList = _; rw [hz]; rfl)
    · intro d hd k C3 h3
      obtain ⟨i, hi, rfl⟩ := List.mem_map.mp hd
      refine ⟨_, rfl, fun Q' hQ => ?_⟩
      simp_arith! [wipe3, GG_call]
      exact pick_str (n := n) (N := N + 1 + k) h3 (by decide +kernel) (by decide +kernel) fun c C' hc h' => hQ _ _ hc h'
theorem word_ok {n N : Nat} {C0 C : CH} {s : Addr} {Q : Kv} {E : Kx} (h : St C0 C s (N + 9)) (hq : ∀ z C', isWd z = true → okT (.str z) = true → St C0 C' s N → Q (.str z) C') : W (n + 4) i__law_word [.ref s] C Q E := by
  have hsl : 1000000 ≤ sizeLine := by decide
  rw [W__law_word]
  unfold b__law_word
  rw [rdSs_cons]
  simp_arith []
  rw [rdSs_cons]
  simp_arith [cLc, iRg1, GG_call, oLst]
  refine ⟨⟨_, rfl⟩, ?_⟩
  intro q hqn
  refine pick_ok (n := n) (N := N + 8) (h.alloc hqn) cup_same (by simp) (by simp) fun d C2 hd h2 => ?_
  have h2 := h2.drop (sub_new (h.no hqn))
  obtain ⟨j, rfl, hj, hj1⟩ : ∃ j : Nat, d = .int j ∧ j ≤ 8 ∧ 1 ≤ j := by
    simp only [List.mem_cons, List.not_mem_nil, or_false] at hd
    rcases hd with e | e | e | e | e
    · exact ⟨1, e, by omega, by omega⟩
    · exact ⟨1, e, by omega, by omega⟩
    · exact ⟨2, e, by omega, by omega⟩
    · exact ⟨3, e, by omega, by omega⟩
    · exact ⟨8, e, by omega, by omega⟩
  refine ⟨_, rfl, by omega, by omega, ?_⟩
  refine lcL_chars (S := CAP.cps.toList) (N := N) (m := j) (h2.le (by omega)) (by omega) ?_ ?_
  · intro cs C3 hcl hcs h3 r hr
    have hst := h3.alloc (o := .lst (cs.map fun c => D.str ⟨#[c]⟩)) hr
    refine join_chs cup_same (by omega) fun z hz hzl => ?_
    obtain ⟨g1, g2⟩ := wd_chars (z := z) (by omega) (by omega) (by rw [hz]; exact hcs)
    exact ⟨_, Sub.refl, hq _ _ g1 g2 (hst.drop (sub_new (h3.no hr)))⟩
  · intro d hd k C3 h3
    obtain ⟨i, hi, rfl⟩ := List.mem_map.mp hd
    refine ⟨_, rfl, fun Q' hQ => ?_⟩
    simp_arith! [wipe3, GG_call]
    exact pick_str (n := n) (N := N + k) h3 (by decide +kernel) (by decide +kernel) fun c C' hc h' => hQ _ _ hc h'

/-! programs: the plan of a program -/
theorem inD_strs {f : Bool → Bool} {C : CH} {p : Addr} {z : Str} {fl : List Str} {Q : Kv} (hp : C p = some (.lst (fl.map D.str))) (hz : PyData.strOk z = true) (hf : ∀ x ∈ fl, PyData.strOk x = true) (q : Q (.bl (f (decide (z ∈ fl)))) C) : oInD f (.str z) (.ref p) C Q := by
  have hs : ∀ fl : List Str, SnapL C (fl.map D.str) (fl.map PyData.str) := fun fl => by
    induction fl with
    | nil => exact .nil
    | cons x xs ih => exact .cons (.str x) ih
  have hd : ∀ fl : List Str, (∀ x ∈ fl, PyData.strOk x = true) → PyData.canLayAll0 (fl.map PyData.str) = true ∧ PyData.depthAll (fl.map PyData.str) = 0 := fun fl => by
    induction fl with
    | nil => exact fun _ => ⟨rfl, rfl⟩
    | cons x xs ih =>
      intro h
      obtain ⟨h1, h2⟩ := ih fun y hy => h y (List.mem_cons_of_mem _ hy)
      refine ⟨?_, ?_⟩
      · simp only [List.map_cons, PyData.canLayAll0, PyData.canLay0, Bool.and_eq_true]
        exact ⟨h x List.mem_cons_self, h1⟩
      · simp only [List.map_cons, PyData.depthAll, PyData.depth, h2]; rfl
  obtain ⟨h1, h2⟩ := hd fl hf
  refine ⟨p, .str z, _, fl.map PyData.str, rfl, hp, .str z, hs fl, ?_, ?_, ?_⟩
  · simp only [SeqAt.shaped, PyData.canLay0, PyData.depth, hz]; rfl
  · simp only [SeqAt.shaped, Bool.and_eq_true, decide_eq_true_eq]
    exact ⟨h1, by show PyData.depthAll _ + 1 ≤ 64; omega⟩
  · have e : ((fl.map PyData.str).any fun x => PyData.eqv x (.str z)) = decide (z ∈ fl) := by
      rw [List.any_map]
      by_cases hm : z ∈ fl
      · rw [decide_eq_true hm, List.any_eq_true]
        exact ⟨z, hm, by simp [PyData.eqv]⟩
      · rw [decide_eq_false hm, List.any_eq_false]
        intro x hx
        have : x ≠ z := fun e => hm (e ▸ hx)
        simp [PyData.eqv, this]
    rw [e]; exact q
def flagB : List CS := match b__law_plan with
  | _ :: .forS _ _ _ b :: _ => b
  | _ => []
theorem good_w1 : ∀ z ∈ (["x1", "x2", "yes", "while", "x"] : List Str), goodNm z := by
  intro z hz
  simp only [List.mem_cons, List.not_mem_nil, or_false] at hz
  rcases hz with rfl | rfl | rfl | rfl | rfl <;> exact ⟨by decide +kernel, by decide +kernel, by decide +kernel⟩
theorem good_w2 : ∀ z ∈ (["any", "all", "and", "else", "emit", "for", "f"] : List Str), goodNm z := by
  intro z hz
  simp only [List.mem_cons, List.not_mem_nil, or_false] at hz
  rcases hz with rfl | rfl | rfl | rfl | rfl | rfl | rfl <;> exact ⟨by decide +kernel, by decide +kernel, by decide +kernel⟩
theorem good_w3 : ∀ z ∈ (["if", "in", "not", "next", "none", "k"] : List Str), goodNm z := by
  intro z hz
  simp only [List.mem_cons, List.not_mem_nil, or_false] at hz
  rcases hz with rfl | rfl | rfl | rfl | rfl | rfl <;> exact ⟨by decide +kernel, by decide +kernel, by decide +kernel⟩
theorem good_w4 : ∀ z ∈ (["or", "source", "then", "pass", "set", "s"] : List Str), goodNm z := by
  intro z hz
  simp only [List.mem_cons, List.not_mem_nil, or_false] at hz
  rcases hz with rfl | rfl | rfl | rfl | rfl | rfl <;> exact ⟨by decide +kernel, by decide +kernel, by decide +kernel⟩
theorem flags_loop {n N : Nat} {ex : Kxs} {Dd : EndsC} {s : Addr} {x1 : Option D} : ∀ (js : List D) (C0 C : CH) (q : Addr) (fl : List Str) (x3 x7 : Option D), C0 q = some (.lst (fl.map D.str)) → FlOk fl → fl.length + js.length ≤ 3 → St C0 C s (N + 12 * js.length) →
    (∀ C0' C' q' fl' x3 x7, Sub C0 C0' → C0' q' = some (.lst (fl'.map D.str)) → FlOk fl' → fl'.length ≤ 3 → St C0' C' s N → Dd.nx [some (.ref s), x1, some (.ref q'), x3, none, none, none, x7] C') →
    forL (hT (.nm 3)) (rdSs (GG (n + 4)) ex flagB) (fun _ => True) Dd js [some (.ref s), x1, some (.ref q), x3, none, none, none, x7] C
  | [], C0, C, q, fl, x3, x7, hq, hf, hl, h, hD => ⟨trivial, hD C0 C q fl x3 x7 Sub.refl hq hf (by simpa using hl) (h.le (by simp))⟩
  | j :: js, C0, C, q, fl, x3, x7, hq, hf, hl, h, hD => by
    have hsl : 1000000 ≤ sizeLine := by decide
    simp only [List.length_cons] at hl h
    refine ⟨trivial, _, rfl, ?_⟩
    simp only [flagB, b__law_plan]
    rw [rdSs_cons]
    simp_arith [GG_call, oLst]
    intro p hp
    have h1 := h.alloc (o := .lst ((["x1", "x2", "yes", "while", "x"] : List Str).map D.str)) hp
    have s1 : Sub C0 (cup C0 p (.lst ((["x1", "x2", "yes", "while", "x"] : List Str).map D.str))) := sub_new (h.no hp)
    refine name_ok (n := n) (N := N + 12 * js.length) (words := ["x1", "x2", "yes", "while", "x"]) (h1.le (by omega)) cup_same good_w1 (by decide) (by decide) (by decide +kernel) (by decide +kernel) (by decide +kernel) fun z C1 gz h2 => ?_
    have hq1 := s1 _ _ hq
    generalize cup C0 p (.lst ((["x1", "x2", "yes", "while", "x"] : List Str).map D.str)) = C0a at h2 s1 hq1
    clear h1
    rw [rdSs_cons]
    simp_arith [oLst]
    intro r hr
    have h3 := h2.alloc (o := .lst [D.str z]) hr
    have s2 : Sub C0a (cup C0a r (.lst [D.str z])) := sub_new (h2.no hr)
    have hr3 : cup C0a r (.lst [D.str z]) r = some (.lst [D.str z]) := cup_same
    have hq3 := s2 _ _ hq1
    generalize cup C0a r (.lst [D.str z]) = C0b at h3 s2 hr3 hq3
    generalize cup C1 r (.lst [D.str z]) = C2 at h3
    clear h2
    refine inD_strs (h3.subC _ _ hq3) gz.2.2 (fun x hx => (hf.good x hx).2.2) ?_
    refine .inr ⟨_, rfl, mul_bool (h3.subC _ _ hr3) (by simp) fun p2 hp2 => ?_⟩
    have h4 := h3.alloc (o := .lst (if (!decide (z ∈ fl)) = true then [D.str z] else [])) hp2
    have s3 : Sub C0b (cup C0b p2 (.lst (if (!decide (z ∈ fl)) = true then [D.str z] else []))) := sub_new (h3.no hp2)
    have hp24 : cup C0b p2 (.lst (if (!decide (z ∈ fl)) = true then [D.str z] else [])) p2 = some (.lst (if (!decide (z ∈ fl)) = true then [D.str z] else [])) := cup_same
    have hq4 := s3 _ _ hq3
    generalize cup C0b p2 (.lst (if (!decide (z ∈ fl)) = true then [D.str z] else [])) = C0c at h4 s3 hp24 hq4
    generalize cup C2 p2 (.lst (if (!decide (z ∈ fl)) = true then [D.str z] else [])) = C3 at h4
    clear h3
    refine add_lists (h4.subC _ _ hq4) (h4.subC _ _ hp24) (by rw [List.length_map]; split <;> simp <;> omega) fun q' hq' => ?_
    have s4 : Sub C0c (cup C0c q' (.lst (fl.map D.str ++ if (!decide (z ∈ fl)) = true then [D.str z] else []))) := sub_new (h4.no hq')
    have e : (fl.map D.str ++ if (!decide (z ∈ fl)) = true then [D.str z] else []) = (if z ∈ fl then fl else fl ++ [z]).map D.str := by
      by_cases hz : z ∈ fl <;> simp [hz]
    rw [e] at s4 ⊢
    have h5 := h4.alloc (o := .lst ((if z ∈ fl then fl else fl ++ [z]).map D.str)) hq'
    refine flags_loop js _ _ q' _ _ _ cup_same ?_ ?_ h5 fun C0' C' q'' fl' x3 x7 sb a1 a2 a3 a4 => hD C0' C' q'' fl' x3 x7 ((((s1.trans s2).trans s3).trans s4).trans sb) a1 a2 a3 a4
    · by_cases hz : z ∈ fl
      · rw [if_pos hz]; exact hf
      · rw [if_neg hz]
        refine ⟨fun x hx => ?_, ?_⟩
        · rcases List.mem_append.mp hx with hx | hx
          · exact hf.good x hx
          · rw [List.mem_singleton.mp hx]; exact gz
        · rw [List.nodup_append]
          refine ⟨hf.nd, by simp, fun a ha b hb => ?_⟩
          rw [List.mem_singleton.mp hb]
          exact fun e => hz (e ▸ ha)
    · split
      · omega
      · simp; omega
theorem lcL_names {TT : CT} {vs : List Nat} {σ : Env3} {e : CTE} {C0 C : CH} {s : Addr} {N m : Nat} {Kq : List D → CH → Prop} (h : St C0 C s (N + 12 * m)) (hm : m ≤ 1000) (hK : ∀ (zs : List Str) C', zs.length = m → (∀ z ∈ zs, goodNm z) → St C0 C' s N → Kq (zs.map D.str) C')
    (hs : ∀ d ∈ rngD 0 m, ∀ C k, St C0 C s (k + 12) → ∃ σ2, bindT TT d (wipe3 σ vs) = some σ2 ∧ ∀ Q : Kv, (∀ z C', goodNm z → St C0 C' s k → Q (.str z) C') → e σ2 C Q) : lcL TT vs σ cYes e (fun _ => True) Kq (rngD 0 m) [] C := by
  have hjt : (rngD 0 m).length = m := by simp [rngD]
  refine lcL_run (fun k C => St C0 C s (N + 12 * k)) (fun d => ∃ z, goodNm z ∧ d = .str z) (fun _ _ _ => trivial) _ [] C ?_ (fun _ h => nomatch h) ?_ ?_ ?_
  · rw [hjt]; exact h
  · rw [hjt]; have : 1000 ≤ sizeLine := (by decide); simp only [List.length_nil]; omega
  · intro acc C3 h3 hla hR
    obtain ⟨zs, e1, e2⟩ : ∃ zs : List Str, acc = zs.map D.str ∧ ∀ z ∈ zs, goodNm z := by
      clear hla
      induction acc with
      | nil => exact ⟨[], rfl, fun _ h => nomatch h⟩
      | cons a acc ih =>
        obtain ⟨zs, e, h⟩ := ih fun d hd => hR d (List.mem_cons_of_mem _ hd)
        obtain ⟨z, hz, e2⟩ := hR a List.mem_cons_self
        refine ⟨z :: zs, by rw [e, e2]; rfl, fun x hx => ?_⟩
        rcases List.mem_cons.mp hx with y | hx
        · rw [y]; exact hz
        · exact h x hx
    subst e1
    simp only [List.length_nil, List.length_map] at hla
    rw [hjt] at hla
    exact hK zs C3 (by omega) e2 h3
  · intro d hd k C3 h3
    obtain ⟨σ2, e1, e2⟩ := hs d hd C3 (N + 12 * k) (h3.le (by omega))
    exact ⟨σ2, e1, fun Q hQ => e2 Q fun z C' hz h' => hQ _ _ ⟨z, hz, rfl⟩ h'⟩
/-- the plan: three lists of names, flags, room -/
def planK (pc pa po : Addr) (fl : List Str) (room : Int) : List (L2.Key × D) := [(.inr "call", .ref pc), (.inr "ask", .ref pa), (.inr "open", .ref po), (.inr "flags", .tup (fl.map D.str)), (.inr "room", .int room)]
structure NmsAt (C : CH) (p : Addr) (zs : List Str) : Prop where
  at_ : C p = some (.lst (zs.map D.str))
  good : ∀ z ∈ zs, goodNm z
  pos : 1 ≤ zs.length
  len : zs.length ≤ 100
structure PlanAt (C : CH) (pc pa po : Addr) (fl : List Str) : Prop where
  c : ∃ zs, NmsAt C pc zs
  a : ∃ zs, NmsAt C pa zs
  o : ∃ zs, NmsAt C po zs
  len : fl.length ≤ 3
  ok : FlOk fl
theorem NmsAt.sub {C C' : CH} {p : Addr} {zs : List Str} (h : NmsAt C p zs) (s : Sub C C') : NmsAt C' p zs := ⟨s _ _ h.at_, h.good, h.pos, h.len⟩
theorem PlanAt.sub {C C' : CH} {pc pa po : Addr} {fl : List Str} (h : PlanAt C pc pa po fl) (s : Sub C C') : PlanAt C' pc pa po fl := by
  obtain ⟨⟨z1, h1⟩, ⟨z2, h2⟩, ⟨z3, h3⟩, h4, h5⟩ := h
  exact ⟨⟨z1, h1.sub s⟩, ⟨z2, h2.sub s⟩, ⟨z3, h3.sub s⟩, h4, h5⟩
theorem plan_ok {n N : Nat} {C0 C : CH} {s : Addr} {room : Int} {Q : Kv} {E : Kx} (h : St C0 C s (N + 120))
    (hq : ∀ pp pc pa po fl C0' C', Sub C0 C0' → C0' pp = none → PlanAt C0' pc pa po fl → St (cup C0' pp (.dic (planK pc pa po fl room))) C' s N → Q (.ref pp) C') : W (n + 5) i__law_plan [.ref s, .int room] C Q E := by
  have hsl : 1000000 ≤ sizeLine := by decide
  rw [W__law_plan]
  unfold b__law_plan
  rw [rdSs_cons]
  simp_arith [oLst]
  intro q hqn
  have h1 := h.alloc (o := .lst []) hqn
  have s1 : Sub C0 (cup C0 q (.lst [])) := sub_new (h.no hqn)
  have hq1 : cup C0 q (.lst []) q = some (.lst []) := cup_same
  generalize cup C0 q (.lst []) = C0a at h1 s1 hq1
  generalize cup C q (.lst []) = C1 at h1
  clear h
  rw [rdSs_cons]
  simp_arith [sFor, iRg1, GG_call, oLst]
  intro p hp
  refine pick_ok (n := n + 1) (N := N + 119) (h1.alloc hp) cup_same (by simp) (by simp) fun d C2 hd h2 => ?_
  have h2 := h2.drop (sub_new (h1.no hp))
  obtain ⟨j, rfl, hj⟩ : ∃ j : Nat, d = .int j ∧ j ≤ 3 := by
    simp only [List.mem_cons, List.not_mem_nil, or_false] at hd
    rcases hd with e | e | e | e | e
    · exact ⟨0, e, by omega⟩
    · exact ⟨1, e, by omega⟩
    · exact ⟨1, e, by omega⟩
    · exact ⟨2, e, by omega⟩
    · exact ⟨3, e, by omega⟩
  refine ⟨_, rfl, by omega, by omega, ?_⟩
  have hjt : (rngD 0 (j : Int).toNat).length = j := by simp [rngD]
  refine flags_loop (n := n) (N := N + 80) _ C0a C2 q [] _ _ hq1 ⟨fun _ h => (nomatch h), List.nodup_nil⟩ (by rw [hjt]; simp; omega) (h2.le (by rw [hjt]; omega)) fun C0b C3 q' fl x3 x7 s2 hq3 hfl hll h3 => ?_
  clear h1 h2
  dsimp only
  rw [rdSs_cons]
  simp_arith [cLc, iRg1]
  refine ⟨by decide, by decide, lcL_names (N := N + 50) (m := 2) (h3.le (by omega)) (by omega) (fun zs1 C1a hl1 hg1 h3a pz1 hpz1 => ?_) (fun d hd C kk hst => ⟨_, rfl, fun Q' hQ => ?_⟩)⟩
  rotate_left
  · simp_arith! [wipe3, GG_call, oLst]
    intro p hp
    refine name_ok (n := n) (N := kk) (words := (["any", "all", "and", "else", "emit", "for", "f"] : List Str)) (hst.alloc hp) cup_same good_w2 (by decide) (by decide) (by decide +kernel) (by decide +kernel) (by decide +kernel) fun z C' gz h' => hQ z C' gz (h'.drop (sub_new (hst.no hp)))
  have hb1 := h3a.alloc (o := .lst (zs1.map D.str)) hpz1
  have sb1 : Sub C0b (cup C0b pz1 (.lst (zs1.map D.str))) := sub_new (h3a.no hpz1)
  have at1 : cup C0b pz1 (.lst (zs1.map D.str)) pz1 = some (.lst (zs1.map D.str)) := cup_same
  generalize cup C0b pz1 (.lst (zs1.map D.str)) = B1 at hb1 sb1 at1
  generalize cup C1a pz1 (.lst (zs1.map D.str)) = C1b at hb1
  clear h3a
  have nm1 : NmsAt B1 pz1 zs1 := ⟨at1, hg1, by omega, by omega⟩
  rw [rdSs_cons]
  simp_arith [cLc, iRg1]
  refine ⟨by decide, by decide, lcL_names (N := N + 25) (m := 2) (hb1.le (by omega)) (by omega) (fun zs2 C2a hl2 hg2 hb1a pz2 hpz2 => ?_) (fun d hd C kk hst => ⟨_, rfl, fun Q' hQ => ?_⟩)⟩
  rotate_left
  · simp_arith! [wipe3, GG_call, oLst]
    intro p hp
    refine name_ok (n := n) (N := kk) (words := (["if", "in", "not", "next", "none", "k"] : List Str)) (hst.alloc hp) cup_same good_w3 (by decide) (by decide) (by decide +kernel) (by decide +kernel) (by decide +kernel) fun z C' gz h' => hQ z C' gz (h'.drop (sub_new (hst.no hp)))
  have hb2 := hb1a.alloc (o := .lst (zs2.map D.str)) hpz2
  have sb2 : Sub B1 (cup B1 pz2 (.lst (zs2.map D.str))) := sub_new (hb1a.no hpz2)
  have at2 : cup B1 pz2 (.lst (zs2.map D.str)) pz2 = some (.lst (zs2.map D.str)) := cup_same
  generalize cup B1 pz2 (.lst (zs2.map D.str)) = B2 at hb2 sb2 at2
  generalize cup C2a pz2 (.lst (zs2.map D.str)) = C2b at hb2
  clear hb1a
  have nm2 : NmsAt B2 pz2 zs2 := ⟨at2, hg2, by omega, by omega⟩
  rw [rdSs_cons]
  simp_arith [cLc, iRg1]
  refine ⟨by decide, by decide, lcL_names (N := N + 1) (m := 2) (hb2.le (by omega)) (by omega) (fun zs3 C3a hl3 hg3 hb2a pz3 hpz3 => ?_) (fun d hd C kk hst => ⟨_, rfl, fun Q' hQ => ?_⟩)⟩
  rotate_left
  · simp_arith! [wipe3, GG_call, oLst]
    intro p hp
    refine name_ok (n := n) (N := kk) (words := (["or", "source", "then", "pass", "set", "s"] : List Str)) (hst.alloc hp) cup_same good_w4 (by decide) (by decide) (by decide +kernel) (by decide +kernel) (by decide +kernel) fun z C' gz h' => hQ z C' gz (h'.drop (sub_new (hst.no hp)))
  have hb3 := hb2a.alloc (o := .lst (zs3.map D.str)) hpz3
  have sb3 : Sub B2 (cup B2 pz3 (.lst (zs3.map D.str))) := sub_new (hb2a.no hpz3)
  have at3 : cup B2 pz3 (.lst (zs3.map D.str)) pz3 = some (.lst (zs3.map D.str)) := cup_same
  generalize cup B2 pz3 (.lst (zs3.map D.str)) = B3 at hb3 sb3 at3
  generalize cup C3a pz3 (.lst (zs3.map D.str)) = C3b at hb3
  clear hb2a
  have nm3 : NmsAt B3 pz3 zs3 := ⟨at3, hg3, by omega, by omega⟩
  rw [rdSs_cons]
  simp_arith [GG_call]
  refine take_ok (n := n + 2) (N := N) hb3 (by decide) (by decide) fun way C4 _ _ h4 => ?_
  have hS : Sub C0 B3 := (((s1.trans s2).trans sb1).trans sb2).trans sb3
  have nm1 := (nm1.sub sb2).sub sb3
  have nm2 := nm2.sub sb3
  have hq4 := sb3 _ _ (sb2 _ _ (sb1 _ _ hq3))
  have tail : ∀ p1 p2, PlanAt B3 p1 pz2 p2 fl → rdSs (GG (n + 4)) (exN E) (b__law_plan.drop 6) (endN Q) [some (.ref s), some (.int room), some (.ref q'), x3, some (.ref p1), some (.ref pz2), some (.ref p2), x7] C4 := by
    intro p1 p2 hP
    simp only [b__law_plan, List.drop]
    rw [rdSs_cons]
    simp_arith [cDic, cPrs]
    refine ⟨_, _, rfl, SqC_ref.mpr (h4.subC _ _ hq4), ?_⟩
    refine ⟨planK p1 pz2 p2 fl room, rfl, rfl, by show 5 ≤ 15; decide, fun pp hpp => ⟨_, Sub.refl, ?_⟩⟩
    have e : dicOf (planK p1 pz2 p2 fl room) = planK p1 pz2 p2 fl room := rfl
    rw [e]
    exact hq pp p1 pz2 p2 fl B3 _ hS (h4.no hpp) hP (h4.alloc hpp)
  simp_arith []
  by_cases c1 : way = 0
  · rw [if_pos (decide_eq_true c1), rdSs_cons]
    simp_arith []
    refine ⟨_, _, ⟨rfl, rfl⟩, ?_⟩
    exact tail _ _ ⟨⟨_, nm2⟩, ⟨_, nm2⟩, ⟨_, nm2⟩, hll, hfl⟩
  · rw [if_neg (by simp [c1])]
    exact tail _ _ ⟨⟨_, nm1⟩, ⟨_, nm2⟩, ⟨_, nm3⟩, hll, hfl⟩

/-! programs: heights, values, terms drawn -/
theorem height_ok : ∀ (r n : Nat) (v : Vv) (C : CH) (Q : Kv) (E : Kx), v.h ≤ r → Q (.int v.h) C → W (n + r + 1) i__law_height [v.t.d] C Q E := by
  intro r
  induction r with
  | zero =>
    intro n v C Q E hh hq
    rw [W__law_height]
    unfold b__law_height
    cases v with
    | item i => simp_arith! [Vv.t, T.d, GG_kit]; exact ⟨C, Sub.refl, hq⟩
    | app1 z a => have := a.h_nonneg; simp only [Vv.h] at hh; omega
    | app2 z a b => have := a.h_nonneg; have := b.h_nonneg; simp only [Vv.h] at hh; split at hh <;> omega
  | succ r ih =>
    intro n v C Q E hh hq
    rw [W__law_height]
    unfold b__law_height
    cases v with
    | item i => simp_arith! [Vv.t, T.d, GG_kit]; exact ⟨C, Sub.refl, hq⟩
    | app1 z a =>
      simp only [Vv.h] at hh
      simp_arith! [Vv.t, T.d, T.ds, GG_kit, cLc, iSeq, lcL, wipe3, cutD_tail, cYes, GG_call, List.nil_append]
      refine ih n a C _ _ (by omega) ?_
      intro p hp
      refine oMaxL1 cup_same ?_
      exact ⟨C, sub_new hp, hq⟩
    | app2 z a b =>
      have ha : a.h ≤ r := by simp only [Vv.h] at hh; split at hh <;> omega
      have hb : b.h ≤ r := by simp only [Vv.h] at hh; split at hh <;> omega
      simp_arith! [Vv.t, T.d, T.ds, GG_kit, cLc, iSeq, lcL, wipe3, cutD_tail, cYes, GG_call, List.nil_append, List.cons_append]
      refine ih n a C _ _ (by omega) ?_
      refine ih n b C _ _ (by omega) ?_
      intro p hp
      refine oMaxL2 cup_same ?_
      exact ⟨C, sub_new hp, hq⟩
theorem value_ok {n N : Nat} {C0 C : CH} {s p : Addr} {lv : Int} {vs : List Vv} {Q : Kv} {E : Kx} (h : St C0 C s (N + 3)) (hp : C0 p = some (.lst (vds vs))) (hv : Terms vs) (l1 : 1 ≤ lv) (l3 : lv ≤ 3)
    (hq : ∀ (v : Vv) C', (v ∈ vs ∨ ∃ i, v = .item i ∧ 1 ≤ i ∧ i ≤ lv) → St C0 C' s N → Q v.t.d C') : W (n + 4) i__law_value [.ref s, .int lv, .ref p] C Q E := by
  rw [W__law_value]
  unfold b__law_value
  rw [rdSs_cons]
  simp_arith [oLst, GG_call]
  intro r hr
  have hr0 : C0 r = none := h.no hr
  have h1 := h.alloc (o := .lst []) hr
  refine ts_ne (fun t ht => ⟨(hv.ok t ht).1, by have := (hv.ok t ht).2; omega⟩) (cup_old hr (h.subC _ _ hp)) cup_same ?_
  have h1 := h1.drop (sub_new hr0)
  generalize cup C r (.lst []) = C1 at h1
  have tail : ∀ C', St C0 C' s (N + 2) → rdSs (GG (n + 3)) (exN E) (b__law_value.drop 1) (endN Q) [some (.ref s), some (.int lv), some (.ref p)] C' := by
    intro C' h'
    simp only [b__law_value, List.drop]
    rw [rdSs_cons]
    simp_arith [GG_call]
    refine take_ok (n := n + 1) (N := N + 1) h' (by omega) (by omega) fun k C2 k1 k2 h2 => ?_
    simp_arith []
    by_cases hk : k = 0
    · rw [if_pos (decide_eq_true hk)]
      exact ⟨C2, Sub.refl, hq (.item lv) C2 (.inr ⟨lv, rfl, l1, Int.le_refl _⟩) (h2.le (by omega))⟩
    · rw [if_neg (by simp [hk])]
      refine take_ok (n := n + 1) (N := N) h2 (by omega) (by omega) fun k C3 k1 k2 h3 => ?_
      simp_arith []
      exact ⟨C3, Sub.refl, hq (.item (1 + k)) C3 (.inr ⟨1 + k, rfl, by omega, by omega⟩) h3⟩
  by_cases hn : vs = []
  · subst hn
    simp_arith [List.map_nil, List.isEmpty]
    exact tail _ (h1.less (k := 1))
  · have e1 : (vs.map Vv.t).isEmpty = false := by cases vs <;> simp_all
    rw [e1]
    simp_arith []
    refine take_ok (n := n + 1) (N := N + 2) h1 (by omega) (by omega) fun k C2 k1 k2 h2 => ?_
    simp_arith []
    by_cases hk : k = 0
    · subst hk
      have hp2 : ∀ {C'}, St C0 C' s (N + 1) → C' p = some (.lst (vds vs)) := fun h => h.subC _ _ hp
      have hne : vds vs ≠ [] := by rw [vds_map]; simpa using hn
      have hla : L2.atI (vds vs) (-1) = some ((vds vs).getLast hne) := atI_last hne
      have hlm : ∀ d ∈ vds vs, ∃ v ∈ vs, d = v.t.d := fun d hd => by
        rw [vds_map] at hd
        obtain ⟨v, hv, e⟩ := List.mem_map.mp hd
        exact ⟨v, hv, e.symm⟩
      have hlen : (vds vs).length = vs.length := by rw [vds_map, List.length_map]
      have hpos : 0 < vs.length := List.length_pos_iff.mpr hn
      simp_arith [decide_true]
      rw [rdSs_cons]
      simp_arith [GG_call]
      refine take_ok (n := n + 1) (N := N + 1) h2 (by omega) (by omega) fun k C3 k1 k2 h3 => ?_
      simp_arith []
      by_cases hk : k = 0
      · rw [if_pos (decide_eq_true hk)]
        refine oIxA_lst (hp2 h3) hla ?_
        obtain ⟨v, hv', e⟩ := hlm _ (List.getLast_mem hne)
        rw [e]
        exact ⟨C3, Sub.refl, hq v C3 (.inl hv') (h3.le (by omega))⟩
      · rw [if_neg (by simp [hk])]
        refine pick_ok (n := n) (N := N) h3 hp (by omega) (by have := hv.len; omega) fun d C4 hd h4 => ?_
        obtain ⟨v, hv', e⟩ := hlm d hd
        rw [e]
        exact ⟨C4, Sub.refl, hq v C4 (.inl hv') h4⟩
    · simp_arith [hk, decide_false]
      exact tail _ h2
theorem term_ok {n N : Nat} {C0 C : CH} {s pn pc : Addr} {lv : Int} {zs : List Str} {vs : List Vv} {Q : Kv} {E : Kx} (h : St C0 C s (N + 8)) (hn : NmsAt C0 pn zs) (hc : C0 pc = some (.lst (vds vs))) (hv : Terms vs)
    (l1 : 1 ≤ lv) (l3 : lv ≤ 3) (hq : ∀ (v : Vv) C', FitU v lv (vs.map Vv.t) → St C0 C' s N → Q v.t.d C') : W (n + 6) i__law_term [.ref s, .ref pn, .int lv, .ref pc] C Q E := by
  rw [W__law_term]
  unfold b__law_term
  have h100 : (1000000 : Nat) ≤ sizeLine := by decide
  rw [rdSs_cons]
  simp_arith [cLc, iSeq]
  have hcC := h.subC _ _ hc
  refine ⟨_, hcC, ?_⟩
  rw [vds_map]
  rw [vds_map] at hcC
  refine lcL_if (fun v : Vv => v.t.d) (fun v : Vv => v.t.d) (fun v : Vv => decide (v.h < 4)) (G := fun C => C pc = some (.lst (vs.map fun v => v.t.d))) hcC vs (fun v hv' => ⟨_, rfl, fun Q' hQ => ?_, fun Q' hQ => ?_⟩) (by have := hv.len; omega) ?_
  · simp_arith! [wipe3, GG_call]
    refine height_ok 4 n v C _ _ (hv.good v hv').2.1 ?_
    simp_arith! []
    exact hQ
  · simp_arith! [wipe3]
    exact hQ
  · intro pl hpl
    have hpl0 := h.no hpl
    have h1 := h.alloc (o := .lst ((vs.filter fun v => decide (v.h < 4)).map fun v => v.t.d)) hpl
    have s01 : Sub C0 (cup C0 pl (.lst ((vs.filter fun v => decide (v.h < 4)).map fun v => v.t.d))) := sub_new hpl0
    have hl1 : cup C0 pl (.lst ((vs.filter fun v => decide (v.h < 4)).map fun v => v.t.d)) pl = some (.lst (vds (vs.filter fun v => decide (v.h < 4)))) := by rw [cup_same, vds_map]
    have hlow : Terms (vs.filter fun v => decide (v.h < 4)) := ⟨fun v hv' => hv.good v (List.mem_filter.mp hv').1, Nat.le_trans (List.length_filter_le _ _) hv.len⟩
    have hlow4 : ∀ v ∈ vs.filter fun v => decide (v.h < 4), v.h < 4 ∧ v ∈ vs := fun v hv' => ⟨of_decide_eq_true (List.mem_filter.mp hv').2, (List.mem_filter.mp hv').1⟩
    generalize (vs.filter fun v => decide (v.h < 4)) = low at h1 hl1 hlow hlow4 s01
    rw [rdSs_cons]
    simp_arith [cLc, iRg1, GG_call]
    generalize cup C0 pl (.lst (low.map fun v => v.t.d)) = C1 at h1 hl1 s01
    have hn1 := hn.sub s01
    refine take_ok (n := n + 3) (N := N + 7) h1 (by decide) (by decide) fun k C2 k1 k2 h2 => ?_
    obtain ⟨j, rfl⟩ : ∃ j : Nat, k = j := ⟨k.toNat, by omega⟩
    refine ⟨_, rfl, by omega, by omega, ?_⟩
    have hjt : (rngD 0 (1 + (j : Int)).toNat).length = 1 + j := by simp [rngD]; omega
    refine lcL_run (fun k C => St C1 C s (N + 1 + 3 * k)) (fun d => ∃ v : Vv, d = v.t.d ∧ UseU v lv (vs.map Vv.t) ∧ v.h ≤ 3) (fun _ _ _ => trivial) _ [] C2 ?_ (fun _ h => nomatch h) ?_ ?_ ?_
    · rw [hjt]; exact h2.le (by omega)
    · rw [hjt]; simp only [List.length_nil]; omega
    · intro acc C3 h3 hla hR p hp
      rw [hjt] at hla
      simp only [List.length_nil, Nat.zero_add] at hla
      have hp1 := h3.no hp
      have h4 := St.alloc (o := .lst acc) h3 hp
      have hacc : cup C1 p (.lst acc) p = some (.lst acc) := cup_same
      have hn4 : NmsAt (cup C1 p (.lst acc)) pn zs := hn1.sub (sub_new hp1)
      have s04 : Sub C0 (cup C1 p (.lst acc)) := s01.trans (sub_new hp1)
      generalize cup C1 p (.lst acc) = C4 at h4 hacc hn4 s04
      rw [rdSs_cons]
      simp_arith [GG_call]
      refine pick_ok (n := n + 2) (N := N) (h4.le (by omega)) hn4.at_ (by rw [List.length_map]; exact hn.pos) (by rw [List.length_map]; have := hn.len; omega) fun d C5 hd h5 => ?_
      obtain ⟨z, hz', rfl⟩ := List.mem_map.mp hd
      have gz := hn.good z hz'
      refine ⟨_, acc, rfl, SqC_ref.mpr (h5.subC _ _ hacc), ?_⟩
      have h6 := h5.drop s04
      match acc, hla, hR with
      | [d1], _, hR =>
        obtain ⟨a, rfl, a1, a2⟩ := hR d1 (by simp)
        simp_arith []
        refine ⟨C5, Sub.refl, hq (.app1 z a) C5 (fit_app1 gz a1 a2) h6⟩
      | [d1, d2], _, hR =>
        obtain ⟨a, rfl, a1, a2⟩ := hR d1 (by simp)
        obtain ⟨b, rfl, b1, b2⟩ := hR d2 (by simp)
        simp_arith []
        refine ⟨C5, Sub.refl, hq (.app2 z a b) C5 (fit_app2 gz a1 b1 a2 b2) h6⟩
      | [], hl, _ => simp only [List.length_nil] at hl; omega
      | _ :: _ :: _ :: _, hl, _ => simp only [List.length_cons] at hl; omega
    · intro d hd k C3 h3
      refine ⟨_, rfl, fun Q' hQ => ?_⟩
      simp_arith! [wipe3, GG_call]
      refine value_ok (n := n + 1) (N := N + 1 + 3 * k) (by rw [show N + 1 + 3 * k + 3 = N + 1 + 3 * (k + 1) by omega]; exact h3) hl1 hlow l1 l3 fun v C4 hv' h4 => hQ _ _ ⟨v, rfl, ?_⟩ h4
      rcases hv' with hv' | ⟨i, rfl, i1, i2⟩
      · obtain ⟨g4, g5⟩ := hlow4 v hv'
        exact ⟨hv.use g5, by omega⟩
      · exact ⟨use_item i1 i2 l3, by simp [Vv.h]⟩

/-! programs: the kinds of statements that may be drawn -/
theorem pick_tup {n N : Nat} {C0 C : CH} {s : Addr} {xs : List D} {Q : Kv} {E : Kx} (h : St C0 C s (N + 1)) (h1 : 1 ≤ xs.length) (h2 : xs.length < 1000000) (hq : ∀ d C', d ∈ xs → St C0 C' s N → Q d C') : W (n + 3) i__law_pick [.ref s, .tup xs] C Q E := by
  rw [W__law_pick]
  unfold b__law_pick
  simp_arith! [GG_call]
  refine take_ok h (by omega) (by omega) fun k C' k1 k2 h' => ?_
  obtain ⟨j, rfl⟩ : ∃ j : Nat, k = j := ⟨k.toNat, by omega⟩
  have hj : j < xs.length := by omega
  rw [oIxA_tup]
  exact ⟨_, atI_nat (List.getElem?_eq_getElem hj), C', Sub.refl, hq _ _ (List.getElem_mem hj) h'⟩
theorem ds_strs (fl : List Str) : T.ds (fl.map T.str) = fl.map D.str := by
  rw [T.ds_map, List.map_map]; rfl
theorem flags_ne {C : CH} {fl : List Str} {Q : Kv} (hf : ∀ x ∈ fl, goodNm x) (q : Q (.bl (!fl.isEmpty)) C) : oEqN not (.tup (fl.map D.str)) (.tup []) C Q := by
  have e : (D.tup (fl.map D.str)) = (T.tup (fl.map T.str)).d := by rw [T.d, ds_strs]
  rw [e]
  have hm : ∀ t ∈ fl.map T.str, okT t = true ∧ t.p.depth ≤ 0 := fun t ht => by
    obtain ⟨z, hz, rfl⟩ := List.mem_map.mp ht
    exact ⟨ok_nm (hf z hz), by simp [T.p, PyData.depth]⟩
  obtain ⟨d1, d2⟩ := depths_le hm
  refine oEqN_T (y := .tup []) ?_ (by decide) ?_
  · unfold deepOk
    have e2 : (T.tup (fl.map T.str)).p.depth ≤ 350 := by
      show PyData.depthAll _ + 1 ≤ 350
      omega
    rw [decide_eq_true e2, Bool.and_true]
    exact d1
  · cases fl with
    | nil => exact q
    | cons j js => exact q
/-- the state of a plan -/
abbrev planO (pc pa po : Addr) (fl : List Str) (room : Int) : CO := .dic (planK pc pa po fl room)
theorem pl_flags {C : CH} {pp pc pa po : Addr} {fl : List Str} {room : Int} {Q : Kv} (h : C pp = some (planO pc pa po fl room)) : oIxA (.ref pp) (.str "flags") C Q ↔ Q (.tup (fl.map D.str)) C := by
  unfold oIxA
  simp only [h]
  constructor
  · rintro ⟨k, d, hk, e, q⟩
    cases hk
    rw [show valC (planK pc pa po fl room) (.inr "flags") = some (.tup (fl.map D.str)) from rfl] at e
    cases e
    exact q
  · intro q
    exact ⟨_, _, rfl, rfl, q⟩
theorem pl_room {C : CH} {pp pc pa po : Addr} {fl : List Str} {room : Int} {Q : Kv} (h : C pp = some (planO pc pa po fl room)) : oIxA (.ref pp) (.str "room") C Q ↔ Q (.int room) C := by
  unfold oIxA
  simp only [h]
  constructor
  · rintro ⟨k, d, hk, e, q⟩
    cases hk
    rw [show valC (planK pc pa po fl room) (.inr "room") = some (.int room) from rfl] at e
    cases e
    exact q
  · intro q
    exact ⟨_, _, rfl, rfl, q⟩
theorem pl_call {C : CH} {pp pc pa po : Addr} {fl : List Str} {room : Int} {Q : Kv} (h : C pp = some (planO pc pa po fl room)) : oIxA (.ref pp) (.str "call") C Q ↔ Q (.ref pc) C := by
  unfold oIxA
  simp only [h]
  constructor
  · rintro ⟨k, d, hk, e, q⟩
    cases hk
    rw [show valC (planK pc pa po fl room) (.inr "call") = some (.ref pc) from rfl] at e
    cases e
    exact q
  · intro q
    exact ⟨_, _, rfl, rfl, q⟩
theorem pl_ask {C : CH} {pp pc pa po : Addr} {fl : List Str} {room : Int} {Q : Kv} (h : C pp = some (planO pc pa po fl room)) : oIxA (.ref pp) (.str "ask") C Q ↔ Q (.ref pa) C := by
  unfold oIxA
  simp only [h]
  constructor
  · rintro ⟨k, d, hk, e, q⟩
    cases hk
    rw [show valC (planK pc pa po fl room) (.inr "ask") = some (.ref pa) from rfl] at e
    cases e
    exact q
  · intro q
    exact ⟨_, _, rfl, rfl, q⟩
theorem pl_open {C : CH} {pp pc pa po : Addr} {fl : List Str} {room : Int} {Q : Kv} (h : C pp = some (planO pc pa po fl room)) : oIxA (.ref pp) (.str "open") C Q ↔ Q (.ref po) C := by
  unfold oIxA
  simp only [h]
  constructor
  · rintro ⟨k, d, hk, e, q⟩
    cases hk
    rw [show valC (planK pc pa po fl room) (.inr "open") = some (.ref po) from rfl] at e
    cases e
    exact q
  · intro q
    exact ⟨_, _, rfl, rfl, q⟩
theorem pl_set {C : CH} {pp pc pa po : Addr} {fl : List Str} {room z : Int} {Q : CH → Prop} (h : C pp = some (planO pc pa po fl room)) (q : Q (cup C pp (planO pc pa po fl z))) : oSetL (.ref pp) (.str "room") (.int z) C Q ∨ oSetD (.ref pp) (.str "room") (.int z) C Q :=
  .inr ⟨pp, _, _, rfl, h, rfl, by show 5 < sizeLine; decide, by rw [show putC (planK pc pa po fl room) (.inr "room") (.int z) = planK pc pa po fl z from rfl]; exact q⟩
inductive KindOk (fl : List Str) (lv : Int) (d : Nat) : Str → Prop
  | word : KindOk fl lv d "word"
  | set : fl ≠ [] → KindOk fl lv d "set"
  | clear : fl ≠ [] → KindOk fl lv d "clear"
  | flag : fl ≠ [] → 2 ≤ d → KindOk fl lv d "flag"
  | call : 1 ≤ lv → KindOk fl lv d "call"
  | emit : 1 ≤ lv → KindOk fl lv d "emit"
  | ask : 1 ≤ lv → 2 ≤ d → KindOk fl lv d "ask"
  | for_ : 1 ≤ lv → 2 ≤ d → lv < 3 → KindOk fl lv d "for"
structure Kinds (fl : List Str) (lv : Int) (d : Nat) (ks : List Str) : Prop where
  ok : ∀ k ∈ ks, KindOk fl lv d k
  pos : 1 ≤ ks.length
theorem Kinds.add {fl : List Str} {lv : Int} {d : Nat} {ks js : List Str} (h : Kinds fl lv d ks) (hj : ∀ k ∈ js, KindOk fl lv d k) : Kinds fl lv d (ks ++ js) :=
  ⟨fun k hk => (List.mem_append.mp hk).elim (h.ok k) (hj k), by have := h.pos; simp; omega⟩
theorem newL {B C : CH} {s : Addr} {N : Nat} {xs : List Str} {Q : Kv} (h : St B C s N) (hl : xs.length ≤ sizeLine) (q : ∀ r B' C', Sub B B' → B' r = some (.lst (xs.map D.str)) → St B' C' s N → Q (.ref r) C') : oLst (xs.map D.str) C Q := by
  refine ⟨by rw [List.length_map]; exact hl, fun r hr => ?_⟩
  obtain ⟨B', s', a', h'⟩ := h.grow (o := .lst (xs.map D.str)) hr
  exact q r B' _ s' a' h'
theorem addL {B C : CH} {s a b : Addr} {N : Nat} {xs ys : List Str} {Q : Kv} (h : St B C s N) (ha : B a = some (.lst (xs.map D.str))) (hb : B b = some (.lst (ys.map D.str))) (hl : xs.length + ys.length ≤ sizeLine)
    (q : ∀ r B' C', Sub B B' → B' r = some (.lst ((xs ++ ys).map D.str)) → St B' C' s N → Q (.ref r) C') : oAddA (.ref a) (.ref b) C Q := by
  refine add_lists (h.subC _ _ ha) (h.subC _ _ hb) (by simpa using hl) fun r hr => ?_
  rw [← List.map_append]
  obtain ⟨B', s', a', h'⟩ := h.grow (o := .lst ((xs ++ ys).map D.str)) hr
  exact q r B' _ s' a' h'
theorem mulL {B C : CH} {s a : Addr} {N : Nat} {xs : List Str} {c : Bool} {Q : Kv} (h : St B C s N) (ha : B a = some (.lst (xs.map D.str))) (hl : xs.length ≤ 1000)
    (q : ∀ r B' C', Sub B B' → B' r = some (.lst ((if c = true then xs else []).map D.str)) → St B' C' s N → Q (.ref r) C') : oMulA (.ref a) (.int (if c = true then 1 else 0)) C Q := by
  refine mul_bool (h.subC _ _ ha) (by simpa using hl) fun r hr => ?_
  have e : (if c = true then xs.map D.str else []) = (if c = true then xs else []).map D.str := by split <;> rfl
  rw [e]
  obtain ⟨B', s', a', h'⟩ := h.grow (o := .lst ((if c = true then xs else []).map D.str)) hr
  exact q r B' _ s' a' h'
theorem sorts_ok {n N d : Nat} {ex : Kxs} {Dd : EndsC} {B C : CH} {s pp pc pa po : Addr} {fl : List Str} {room lv nest : Int} {x3 : Option D} (h : St B C s (N + 1)) (hp : B pp = some (planO pc pa po fl room)) (hf : FlOk fl) (hn : nest + d = 7)
    (hD : ∀ k pk C', KindOk fl lv d k → St B C' s N → rdSs (GG (n + 3)) ex (b__law_statement.drop 4) Dd [some (.ref s), some (.ref pp), some (.int lv), x3, some (.int nest), some (.ref pk), some (.str k), none, none, none] C') :
    rdSs (GG (n + 3)) ex b__law_statement Dd [some (.ref s), some (.ref pp), some (.int lv), x3, some (.int nest), none, none, none, none, none] C := by
  have hsl : 1000000 ≤ sizeLine := by decide
  unfold b__law_statement
  rw [rdSs_cons]
  simp_arith []
  refine newL (xs := ["word"]) h (by simp; omega) fun p0 B1 C1 s1 a1 h1 => ?_
  have k1 : Kinds fl lv d ["word"] := ⟨fun k hk => by rw [List.mem_singleton.mp hk]; exact .word, by simp⟩
  have tail : ∀ (ks : List Str) (pk : Addr) (B2 C2 : CH), Kinds fl lv d ks → ks.length ≤ 30 → Sub B B2 → B2 pk = some (.lst (ks.map D.str)) → St B2 C2 s (N + 1) →
      rdSs (GG (n + 3)) ex (b__law_statement.drop 3) Dd [some (.ref s), some (.ref pp), some (.int lv), x3, some (.int nest), some (.ref pk), none, none, none, none] C2 := by
    intro ks pk B2 C2 kk kl s2 a2 h2
    simp only [b__law_statement, List.drop]
    rw [rdSs_cons]
    simp_arith [GG_call]
    refine pick_ok (n := n) (N := N) h2 a2 (by rw [List.length_map]; exact kk.pos) (by rw [List.length_map]; omega) fun dk C' hd h' => ?_
    obtain ⟨k, hk, rfl⟩ := List.mem_map.mp hd
    exact hD k pk C' (kk.ok k hk) (h'.drop s2)
  have mid : ∀ (ks : List Str) (pk : Addr) (B2 C2 : CH), Kinds fl lv d ks → ks.length ≤ 10 → Sub B B2 → B2 pk = some (.lst (ks.map D.str)) → St B2 C2 s (N + 1) →
      rdSs (GG (n + 3)) ex (b__law_statement.drop 2) Dd [some (.ref s), some (.ref pp), some (.int lv), x3, some (.int nest), some (.ref pk), none, none, none, none] C2 := by
    intro ks pk B2 C2 kk kl s2 a2 h2
    simp only [b__law_statement, List.drop]
    rw [rdSs_cons]
    simp_arith []
    by_cases hl : lv > 0
    · rw [if_pos (decide_eq_true hl), rdSs_cons]
      simp_arith []
      refine newL (xs := ["call", "call", "emit", "emit"]) h2 (by simp; omega) fun r1 B3 C3 s3 a3 h3 => ?_
      refine addL h3 (s3 _ _ a2) a3 (by simp; omega) fun r2 B4 C4 s4 a4 h4 => ?_
      refine newL (xs := ["ask", "ask", "ask"]) h4 (by simp; omega) fun r3 B5 C5 s5 a5 h5 => ?_
      refine mulL h5 a5 (by simp) fun r4 B6 C6 s6 a6 h6 => ?_
      refine addL h6 (s6 _ _ (s5 _ _ a4)) a6 (by split <;> simp <;> omega) fun r5 B7 C7 s7 a7 h7 => ?_
      rw [rdSs_cons]
      simp_arith []
      refine newL (xs := ["for", "for"]) h7 (by simp; omega) fun r6 B8 C8 s8 a8 h8 => ?_
      have k7 : Kinds fl lv d ((ks ++ (["call", "call", "emit", "emit"] : List Str)) ++ if decide (nest < 6) = true then (["ask", "ask", "ask"] : List Str) else []) := by
        refine (kk.add ?_).add ?_
        · intro k hk
          simp only [List.mem_cons, List.not_mem_nil, or_false] at hk
          rcases hk with e | e | e | e <;> rw [e]
          · exact .call (by omega)
          · exact .call (by omega)
          · exact .emit (by omega)
          · exact .emit (by omega)
        · intro k hk
          split at hk
          · rename_i hc
            have := of_decide_eq_true hc
            simp only [List.mem_cons, List.not_mem_nil, or_false] at hk
            rcases hk with e | e | e <;> rw [e] <;> exact .ask (by omega) (by omega)
          · cases hk
      have l7 : ((ks ++ (["call", "call", "emit", "emit"] : List Str)) ++ if decide (nest < 6) = true then (["ask", "ask", "ask"] : List Str) else []).length ≤ 20 := by split <;> simp <;> omega
      generalize ((ks ++ (["call", "call", "emit", "emit"] : List Str)) ++ if decide (nest < 6) = true then (["ask", "ask", "ask"] : List Str) else []) = k7s at k7 l7 a7
      have sB : Sub B B8 := (((((s2.trans s3).trans s4).trans s5).trans s6).trans s7).trans s8
      by_cases hn6 : nest < 6
      · rw [if_pos (decide_eq_true hn6)]
        refine mulL h8 a8 (by simp) fun r9 B9 C9 s9 a9 h9 => ?_
        refine addL h9 (s9 _ _ (s8 _ _ a7)) a9 (by split <;> simp <;> omega) fun r10 B10 C10 s10 a10 h10 => ?_
        refine tail _ _ B10 _ (k7.add ?_) (by split <;> simp <;> omega) ((sB.trans s9).trans s10) a10 h10
        intro k hk
        split at hk
        · rename_i hc
          have := of_decide_eq_true hc
          simp only [List.mem_cons, List.not_mem_nil, or_false] at hk
          rcases hk with e | e <;> rw [e] <;> exact .for_ (by omega) (by omega) (by omega)
        · cases hk
      · rw [if_neg (by simp [hn6])]
        refine mulL (c := false) h8 a8 (by simp) fun r9 B9 C9 s9 a9 h9 => ?_
        refine addL h9 (s9 _ _ (s8 _ _ a7)) a9 (by simp; omega) fun r10 B10 C10 s10 a10 h10 => ?_
        exact tail _ _ B10 _ (k7.add fun k hk => by simp at hk) (by simp; omega) ((sB.trans s9).trans s10) a10 h10
    · rw [if_neg (by simp [hl])]
      exact tail ks pk B2 C2 kk (by omega) s2 a2 h2
  rw [rdSs_cons]
  simp_arith [pl_flags (h1.subC _ _ (s1 _ _ hp))]
  refine flags_ne hf.good ?_
  simp_arith []
  by_cases he : fl = []
  · subst he
    exact mid _ _ B1 _ k1 (by simp) s1 a1 h1
  · rw [if_pos (by cases fl <;> simp_all), rdSs_cons]
    simp_arith []
    refine newL (xs := ["set", "set", "clear"]) h1 (by simp; omega) fun r1 B3 C3 s3 a3 h3 => ?_
    refine addL h3 (s3 _ _ a1) a3 (by simp; omega) fun r2 B4 C4 s4 a4 h4 => ?_
    refine newL (xs := ["flag", "flag"]) h4 (by simp; omega) fun r3 B5 C5 s5 a5 h5 => ?_
    refine mulL h5 a5 (by simp) fun r4 B6 C6 s6 a6 h6 => ?_
    refine addL h6 (s6 _ _ (s5 _ _ a4)) a6 (by split <;> simp <;> omega) fun r5 B7 C7 s7 a7 h7 => ?_
    refine mid _ _ B7 _ ((k1.add ?_).add ?_) ?_ ((((s1.trans s3).trans s4).trans s5).trans (s6.trans s7)) a7 h7
    · intro k hk
      simp only [List.mem_cons, List.not_mem_nil, or_false] at hk
      rcases hk with e | e | e <;> rw [e]
      · exact .set he
      · exact .set he
      · exact .clear he
    · intro k hk
      split at hk
      · rename_i hc
        have := of_decide_eq_true hc
        simp only [List.mem_cons, List.not_mem_nil, or_false] at hk
        rcases hk with e | e <;> rw [e] <;> exact .flag he (by omega)
      · cases hk
    · split <;> simp

/-! programs: statements and blocks drawn -/
theorem cup_id {C : CH} {p : Addr} {o : CO} (h : C p = some o) : cup C p o = C := funext fun a => by
  by_cases z : a = p
  · subst z; rw [cup_same, h]
  · rw [cup_ne z]
structure PlanIn (B : CH) (pp pc pa po : Addr) (fl : List Str) (room : Nat) : Prop where
  at_ : B pp = some (planO pc pa po fl room)
  pl : PlanAt B pc pa po fl
theorem lst_put {B : CH} {pp p : Addr} {ks : List (L2.Key × D)} {xs : List D} {o : CO} (h : B pp = some (.dic ks)) (hp : B p = some (.lst xs)) : cup B pp o p = some (.lst xs) := by
  rw [cup_ne (fun z => by rw [z, h] at hp; cases hp)]; exact hp
theorem PlanIn.put {B : CH} {pp pc pa po : Addr} {fl : List Str} {room : Nat} (r : Nat) (h : PlanIn B pp pc pa po fl room) : PlanIn (cup B pp (planO pc pa po fl r)) pp pc pa po fl r := by
  obtain ⟨at_, ⟨⟨z1, h1⟩, ⟨z2, h2⟩, ⟨z3, h3⟩, h4, h5⟩⟩ := h
  exact ⟨cup_same, ⟨z1, lst_put at_ h1.at_, h1.good, h1.pos, h1.len⟩, ⟨z2, lst_put at_ h2.at_, h2.good, h2.pos, h2.len⟩, ⟨z3, lst_put at_ h3.at_, h3.good, h3.pos, h3.len⟩, h4, h5⟩
def BlkD (d : Nat) : Prop := ∀ (n N : Nat) (B C : CH) (s pp pc pa po pv : Addr) (fl : List Str) (lv nest : Int) (room : Nat) (vs : List Vv) (Q : Kv) (E : Kx), nest + d = 7 → PlanIn B pp pc pa po fl room → B pv = some (.lst (vds vs)) → Terms vs → vs.length + 10 * d ≤ 900 → 0 ≤ lv → lv ≤ 3 → St B C s (N + 20 * room + 3) →
  (∀ b (r : Nat) C', loV fl b lv (vs.map Vv.t) = true → blDp b ≤ d → (b.length + cntL b) + r = room → St (cup B pp (planO pc pa po fl r)) C' s (N + 20 * r) → Q (.tup (T.ds (blT b))) C') →
  W (n + 2 * d + 6) i__law_block [.ref s, .ref pp, .int lv, .ref pv, .int nest] C Q E
def StmD (d : Nat) : Prop := ∀ (n N : Nat) (B C : CH) (s pp pc pa po pv : Addr) (fl : List Str) (lv nest : Int) (room : Nat) (vs : List Vv) (Q : Kv) (E : Kx), nest + d = 7 → PlanIn B pp pc pa po fl room → B pv = some (.lst (vds vs)) → Terms vs → vs.length + 10 * d ≤ 910 → 0 ≤ lv → lv ≤ 3 → St B C s (N + 20 * room + 15) →
  (∀ (st : St1) (r : Nat) C', stV fl st lv (vs.map Vv.t) = true → isEnd st = false → st.dp + 1 ≤ d → cntS st + r = room → St (cup B pp (planO pc pa po fl r)) C' s (N + 20 * r) → Q st.t.d C') →
  W (n + 2 * d + 5) i__law_statement [.ref s, .ref pp, .int lv, .ref pv, .int nest] C Q E
theorem flag_in {fl : List Str} {z : Str} (h : FlOk fl) (m : z ∈ fl) : flagP fl (.str z) = true := by
  have h1 := (h.good z m).1
  simp only [flagP, Bool.and_eq_true, List.any_eq_true, decide_eq_true_eq]
  exact ⟨h1, z, m, rfl⟩
theorem stm_drawn {d : Nat} (h1 : 1 ≤ d) (ih : 2 ≤ d → BlkD (d - 1)) : StmD d := by
  intro n N B C s pp pc pa po pv fl lv nest room vs Q E hn hp hv tv hvl l0 l3 h hq
  have e3 : n + 2 * d + 4 = (n + 2 * d + 1) + 3 := by omega
  rw [W__law_statement]
  rw [e3]
  refine sorts_ok (n := n + 2 * d + 1) (N := N + 20 * room + 14) (by rw [show N + 20 * room + 14 + 1 = N + 20 * room + 15 by omega]; exact h) hp.at_ hp.pl.ok hn fun k pk C1 hk h1 => ?_
  have same : ∀ {C'}, St B C' s (N + 20 * room) → St (cup B pp (planO pc pa po fl room)) C' s (N + 20 * room) := fun h => by rw [cup_id hp.at_]; exact h
  have hpC := fun {C' M} (h : St B C' s M) => h.subC _ _ hp.at_
  simp only [b__law_statement, List.drop]
  rw [rdSs_cons]
  cases hk with
  | word =>
    simp_arith [oEqN_strI (i := "word") (j := "word") (by decide +kernel) (by decide +kernel), decide_true, GG_call]
    rw [rdSs_cons]
    simp_arith [GG_call]
    refine word_ok (n := n + 2 * d) (N := N + 20 * room) (h1.le (by omega)) fun z C2 wz oz h2 => ?_
    exact ⟨C2, Sub.refl, hq (.emit (.str z)) room C2 (by show (isWd z || _) = true; rw [wz]; rfl) rfl (by simp [St1.dp]; omega) (by simp [cntS]) (same h2)⟩
  | set hf =>
    simp_arith [oEqN_strI (i := "set") (j := "word") (by decide +kernel) (by decide +kernel)]
    rw [if_neg (by decide), rdSs_cons]
    simp_arith []
    rw [if_pos (by decide), rdSs_cons]
    simp_arith [pl_flags (hpC h1), GG_call]
    refine pick_tup (n := n + 2 * d + 1) (N := N + 20 * room) (h1.le (by omega)) (by rw [List.length_map]; exact List.length_pos_iff.mpr hf) (by rw [List.length_map]; have := hp.pl.len; omega) fun dz C2 hd h2 => ?_
    obtain ⟨z, hz, rfl⟩ := List.mem_map.mp hd
    exact ⟨C2, Sub.refl, hq (.set (.str z)) room C2 (flag_in hp.pl.ok hz) rfl (by simp [St1.dp]; omega) (by simp [cntS]) (same h2)⟩
  | clear hf =>
    simp_arith [oEqN_strI (i := "clear") (j := "word") (by decide +kernel) (by decide +kernel)]
    rw [if_neg (by decide), rdSs_cons]
    simp_arith []
    rw [if_pos (by decide), rdSs_cons]
    simp_arith [pl_flags (hpC h1), GG_call]
    refine pick_tup (n := n + 2 * d + 1) (N := N + 20 * room) (h1.le (by omega)) (by rw [List.length_map]; exact List.length_pos_iff.mpr hf) (by rw [List.length_map]; have := hp.pl.len; omega) fun dz C2 hd h2 => ?_
    obtain ⟨z, hz, rfl⟩ := List.mem_map.mp hd
    exact ⟨C2, Sub.refl, hq (.clear (.str z)) room C2 (flag_in hp.pl.ok hz) rfl (by simp [St1.dp]; omega) (by simp [cntS]) (same h2)⟩
  | emit hl =>
    simp_arith [oEqN_strI (i := "emit") (j := "word") (by decide +kernel) (by decide +kernel)]
    rw [if_neg (by decide), rdSs_cons]
    simp_arith []
    rw [if_neg (by decide), rdSs_cons]
    simp_arith [oEqN_strI (i := "emit") (j := "emit") (by decide +kernel) (by decide +kernel), decide_true, GG_call]
    rw [rdSs_cons]
    simp_arith [GG_call]
    refine value_ok (n := n + 2 * d) (N := N + 20 * room) (h1.le (by omega)) hv tv hl l3 fun v C2 hv' h2 => ?_
    have u : UseU v lv (vs.map Vv.t) := by
      rcases hv' with m | ⟨i, rfl, i1, i2⟩
      · exact tv.use m
      · exact use_item i1 i2 l3
    exact ⟨C2, Sub.refl, hq (.emit v.t) room C2 (by show (_ || useP _ _ _) = true; rw [u.use, Bool.or_true]) rfl (by simp [St1.dp]; omega) (by simp [cntS]) (same h2)⟩
  | call hl =>
    simp_arith [oEqN_strI (i := "call") (j := "word") (by decide +kernel) (by decide +kernel)]
    rw [if_neg (by decide), rdSs_cons]
    simp_arith []
    rw [if_neg (by decide), rdSs_cons]
    simp_arith [oEqN_strI (i := "call") (j := "emit") (by decide +kernel) (by decide +kernel)]
    rw [if_neg (by decide), rdSs_cons]
    simp_arith [oEqN_strI (i := "call") (j := "call") (by decide +kernel) (by decide +kernel), decide_true]
    rw [rdSs_cons]
    simp_arith [pl_call (hpC h1), GG_call]
    obtain ⟨zs, hz⟩ := hp.pl.c
    have e6 : n + 2 * d + 1 + 3 = (n + 2 * d - 2) + 6 := by omega
    rw [e6]
    refine term_ok (n := n + 2 * d - 2) (N := N + 20 * room) (h1.le (by omega)) hz hv tv hl l3 fun v C2 f h2 => ?_
    exact ⟨C2, Sub.refl, hq (.call v.t) room C2 f.fit rfl (by simp [St1.dp]; omega) (by simp [cntS]) (same h2)⟩
  | for_ hl hd hl3 =>
    simp_arith [oEqN_strI (i := "for") (j := "word") (by decide +kernel) (by decide +kernel)]
    rw [if_neg (by decide), rdSs_cons]
    simp_arith []
    rw [if_neg (by decide), rdSs_cons]
    simp_arith [oEqN_strI (i := "for") (j := "emit") (by decide +kernel) (by decide +kernel)]
    rw [if_neg (by decide), rdSs_cons]
    simp_arith [oEqN_strI (i := "for") (j := "call") (by decide +kernel) (by decide +kernel)]
    rw [if_neg (by decide), rdSs_cons]
    simp_arith [oEqN_strI (i := "for") (j := "for") (by decide +kernel) (by decide +kernel), decide_true]
    rw [rdSs_cons]
    simp_arith [pl_open (hpC h1), GG_call]
    obtain ⟨zs, hz⟩ := hp.pl.o
    have e6 : n + 2 * d + 1 + 3 = (n + 2 * d - 2) + 6 := by omega
    have e7 : n + 2 * d + 1 + 3 = n + 2 * (d - 1) + 6 := by omega
    rw [e6]
    refine term_ok (n := n + 2 * d - 2) (N := N + 20 * room + 6) (h1.le (by omega)) hz hv tv hl l3 fun v C2 f h2 => ?_
    rw [← e6, e7]
    rw [rdSs_cons]
    simp_arith [GG_call]
    refine ih hd n (N + 3) B C2 s pp pc pa po pv fl (lv + 1) (nest + 1) room vs _ _ (by omega) hp hv tv (by omega) (by omega) (by omega) (h2.le (by omega)) fun b1 r1 C3 v1 d1 c1 h3 => ?_
    rw [rdSs_cons]
    simp_arith [GG_call]
    have hp2 := hp.put r1
    have hv2 := lst_put (o := planO pc pa po fl r1) hp.at_ hv
    refine ih hd n N _ C3 s pp pc pa po pv fl lv (nest + 1) r1 vs _ _ (by omega) hp2 hv2 tv (by omega) l0 l3 (h3.le (by omega)) fun b2 r2 C4 v2 d2 c2 h4 => ?_
    rw [cup_cup] at h4
    refine ⟨C4, Sub.refl, hq (.forr v.t b1 b2) r2 C4 ?_ rfl ?_ ?_ h4⟩
    · simp only [stV, f.fit, v1, v2, show lv + 1 ≤ 3 by omega, decide_true, Bool.and_self]
    · simp only [St1.dp]; omega
    · simp only [cntS]; omega
  | flag hf hd =>
    have e7 : n + 2 * d + 1 + 3 = n + 2 * (d - 1) + 6 := by omega
    simp_arith [oEqN_strI (i := "flag") (j := "word") (by decide +kernel) (by decide +kernel)]
    rw [if_neg (by decide), rdSs_cons]
    simp_arith []
    rw [if_neg (by decide), rdSs_cons]
    simp_arith [oEqN_strI (i := "flag") (j := "emit") (by decide +kernel) (by decide +kernel)]
    rw [if_neg (by decide), rdSs_cons]
    simp_arith [oEqN_strI (i := "flag") (j := "call") (by decide +kernel) (by decide +kernel)]
    rw [if_neg (by decide), rdSs_cons]
    simp_arith [oEqN_strI (i := "flag") (j := "for") (by decide +kernel) (by decide +kernel)]
    rw [if_neg (by decide), rdSs_cons]
    simp_arith [oEqN_strI (i := "flag") (j := "flag") (by decide +kernel) (by decide +kernel), decide_true, pl_flags (hpC h1), GG_call]
    refine pick_tup (n := n + 2 * d + 1) (N := N + 20 * room + 6) (h1.le (by omega)) (by rw [List.length_map]; exact List.length_pos_iff.mpr hf) (by rw [List.length_map]; have := hp.pl.len; omega) fun dz C2 hdz h2 => ?_
    obtain ⟨z, hz, rfl⟩ := List.mem_map.mp hdz
    rw [rdSs_cons]
    simp_arith [oEqN_strI (i := "flag") (j := "ask") (by decide +kernel) (by decide +kernel)]
    rw [if_neg (by decide)]
    rw [rdSs_cons]
    simp_arith [GG_call]
    rw [e7]
    refine ih hd n (N + 3) B C2 s pp pc pa po pv fl lv (nest + 1) room vs _ _ (by omega) hp hv tv (by omega) l0 l3 (h2.le (by omega)) fun b1 r1 C3 v1 d1 c1 h3 => ?_
    rw [rdSs_cons]
    simp_arith [GG_call]
    have hp2 := hp.put r1
    have hv2 := lst_put (o := planO pc pa po fl r1) hp.at_ hv
    refine ih hd n N _ C3 s pp pc pa po pv fl lv (nest + 1) r1 vs _ _ (by omega) hp2 hv2 tv (by omega) l0 l3 (h3.le (by omega)) fun b2 r2 C4 v2 d2 c2 h4 => ?_
    rw [cup_cup] at h4
    refine ⟨C4, Sub.refl, hq (.iff (.flag (.str z)) b1 b2) r2 C4 ?_ rfl ?_ ?_ h4⟩
    · simp only [stV, quP, flag_in hp.pl.ok hz, v1, v2, l3, decide_true, Bool.and_self]
    · simp only [St1.dp]; omega
    · simp only [cntS]; omega
  | ask hl hd =>
    have e7 : n + 2 * d + 1 + 3 = n + 2 * (d - 1) + 6 := by omega
    have e6 : n + 2 * d + 1 + 3 = (n + 2 * d - 2) + 6 := by omega
    simp_arith [oEqN_strI (i := "ask") (j := "word") (by decide +kernel) (by decide +kernel)]
    rw [if_neg (by decide), rdSs_cons]
    simp_arith []
    rw [if_neg (by decide), rdSs_cons]
    simp_arith [oEqN_strI (i := "ask") (j := "emit") (by decide +kernel) (by decide +kernel)]
    rw [if_neg (by decide), rdSs_cons]
    simp_arith [oEqN_strI (i := "ask") (j := "call") (by decide +kernel) (by decide +kernel)]
    rw [if_neg (by decide), rdSs_cons]
    simp_arith [oEqN_strI (i := "ask") (j := "for") (by decide +kernel) (by decide +kernel)]
    rw [if_neg (by decide), rdSs_cons]
    simp_arith [oEqN_strI (i := "ask") (j := "flag") (by decide +kernel) (by decide +kernel)]
    rw [if_neg (by decide), rdSs_cons]
    simp_arith [oEqN_strI (i := "ask") (j := "ask") (by decide +kernel) (by decide +kernel), decide_true]
    rw [rdSs_cons]
    simp_arith [pl_ask (hpC h1), GG_call]
    obtain ⟨zs, hz⟩ := hp.pl.a
    rw [e6]
    refine term_ok (n := n + 2 * d - 2) (N := N + 20 * room + 6) (h1.le (by omega)) hz hv tv hl l3 fun v C2 f h2 => ?_
    rw [← e6]
    rw [rdSs_cons]
    simp_arith [GG_call]
    rw [e7]
    refine ih hd n (N + 3) B C2 s pp pc pa po pv fl lv (nest + 1) room vs _ _ (by omega) hp hv tv (by omega) l0 l3 (h2.le (by omega)) fun b1 r1 C3 v1 d1 c1 h3 => ?_
    rw [rdSs_cons]
    simp_arith [GG_call]
    have hp2 := hp.put r1
    have hv2 := lst_put (o := planO pc pa po fl r1) hp.at_ hv
    refine ih hd n N _ C3 s pp pc pa po pv fl lv (nest + 1) r1 vs _ _ (by omega) hp2 hv2 tv (by omega) l0 l3 (h3.le (by omega)) fun b2 r2 C4 v2 d2 c2 h4 => ?_
    rw [cup_cup] at h4
    refine ⟨C4, Sub.refl, hq (.iff (.ask v.t) b1 b2) r2 C4 ?_ rfl ?_ ?_ h4⟩
    · simp only [stV, quP, f.fit, v1, v2, l3, decide_true, Bool.and_self]
    · simp only [St1.dp]; omega
    · simp only [cntS]; omega

/-! programs: blocks drawn -/
def St1.hd : St1 → Str
  | .call _ => "call"
  | .emit _ => "emit"
  | .iff _ _ _ => "if"
  | .forr _ _ _ => "for"
  | .brk => "break"
  | .cont => "continue"
  | .set _ => "set"
  | .clear _ => "clear"
def St1.tl : St1 → List D
  | .call v => [v.d]
  | .emit v => [v.d]
  | .iff q a b => [q.t.d, .tup (T.ds (blT a)), .tup (T.ds (blT b))]
  | .forr v a b => [v.d, .tup (T.ds (blT a)), .tup (T.ds (blT b))]
  | .brk => []
  | .cont => []
  | .set v => [v.d]
  | .clear v => [v.d]
theorem hd_d (s : St1) : s.t.d = .tup (.str s.hd :: s.tl) := by
  cases s <;> simp only [St1.t, T.d, T.ds, St1.hd, St1.tl]
theorem hd_ok (s : St1) : PyData.strOk s.hd = true := by
  cases s <;> (simp only [St1.hd]; decide +kernel)
theorem hd_call {s : St1} (h : s.hd = "call") : ∃ v, s = .call v := by
  cases s with
  | call v => exact ⟨v, rfl⟩
  | _ => exact absurd h (by simp only [St1.hd]; decide)
theorem preV_append {fl : List Str} {lv : Int} : ∀ (xs ys : List St1) (vs : List T), preV fl (xs ++ ys) lv vs = (preV fl xs lv vs && preV fl ys lv (endK vs xs))
  | [], ys, vs => by simp [preV, endK]
  | x :: xs, ys, vs => by
    rw [List.cons_append, preV, preV_append xs ys, preV, endK]
    simp only [Bool.and_assoc]
def dblkB : List CS := match b__law_block with
  | _ :: .forS _ _ _ b :: _ => b
  | _ => []
theorem vds_append (xs ys : List Vv) : vds (xs ++ ys) = vds xs ++ vds ys := by simp [vds_map]
theorem PlanIn.keep {B B' : CH} {pp pc pa po : Addr} {fl : List Str} {room r : Nat} (h : PlanIn B pp pc pa po fl room) (at' : B' pp = some (planO pc pa po fl r)) (k : ∀ a u, (a = pc ∨ a = pa ∨ a = po) → B a = some u → B' a = some u) : PlanIn B' pp pc pa po fl r := by
  obtain ⟨at_, ⟨⟨z1, h1⟩, ⟨z2, h2⟩, ⟨z3, h3⟩, h4, h5⟩⟩ := h
  exact ⟨at', ⟨z1, k _ _ (.inl rfl) h1.at_, h1.good, h1.pos, h1.len⟩, ⟨z2, k _ _ (.inr (.inl rfl)) h2.at_, h2.good, h2.pos, h2.len⟩, ⟨z3, k _ _ (.inr (.inr rfl)) h3.at_, h3.good, h3.pos, h3.len⟩, h4, h5⟩
theorem blk_loop {d n N : Nat} (ih : StmD d) {ex : Kxs} {Dd : EndsC} {s pp pc pa po pf pk : Addr} {fl : List Str} {lv nest : Int} {x3 : Option D} {vs0 : List T} (hn : nest + d = 7) (l0 : 0 ≤ lv) (l3 : lv ≤ 3) (nfk : pf ≠ pk) (hN : ∀ p, p = pc ∨ p = pa ∨ p = po → p ≠ pf ∧ p ≠ pk) :
    ∀ (js : List D) (B C : CH) (b : List St1) (us : List Vv) (room : Nat) (x5 : Option D), PlanIn B pp pc pa po fl room → B pf = some (.lst (T.ds (blT b))) → B pk = some (.lst (vds us)) → Terms us → us.length + js.length + 10 * d ≤ 910 →
      preV fl b lv vs0 = true → endK vs0 b = us.map Vv.t → blDp b ≤ d → b.length + js.length ≤ 900 → St B C s (N + 20 * room + 2) →
      (∀ B' C' b' (r : Nat) x5', (∀ a u, a ≠ pp → a ≠ pf → a ≠ pk → B a = some u → B' a = some u) → PlanIn B' pp pc pa po fl r → B' pf = some (.lst (T.ds (blT b'))) → preV fl b' lv vs0 = true → blDp b' ≤ d → (b'.length + cntL b') + r = (b.length + cntL b) + room → b'.length ≤ 900 →
        St B' C' s (N + 20 * r + 2) → Dd.nx [some (.ref s), some (.ref pp), some (.int lv), x3, some (.int nest), x5', some (.ref pf), some (.ref pk)] C') →
      forL (hT (.nm 5)) (rdSs (GG (n + 2 * d + 5)) ex dblkB) (fun _ => True) Dd js [some (.ref s), some (.ref pp), some (.int lv), x3, some (.int nest), x5, some (.ref pf), some (.ref pk)] C
  | [], B, C, b, us, room, x5, hp, hf, hk, tu, hl, hV, hK, hd, hbl, h, hD => ⟨trivial, hD B C b room x5 (fun _ _ _ _ _ e => e) hp hf hV hd rfl (by simpa using hbl) h⟩
  | j :: js, B, C, b, us, room, x5, hp, hf, hk, tu, hl, hV, hK, hd, hbl, h, hD => by
    have hsl : 1000000 ≤ sizeLine := by decide
    simp only [List.length_cons] at hl hbl
    refine ⟨trivial, _, rfl, ?_⟩
    simp only [dblkB, b__law_block]
    rw [rdSs_cons]
    simp_arith [pl_room (h.subC _ _ hp.at_)]
    cases room with
    | zero =>
      rw [if_neg (by decide)]
      exact blk_loop ih hn l0 l3 nfk hN js B C b us 0 _ hp hf hk tu (by omega) hV hK hd (by omega) h hD
    | succ r =>
      rw [if_pos (decide_eq_true (by omega)), rdSs_cons]
      simp_arith [pl_room (h.subC _ _ hp.at_)]
      refine pl_set (h.subC _ _ hp.at_) ?_
      rw [show ((r + 1 : Nat) : Int) - 1 = (r : Nat) by omega]
      have h1 := h.put (o := planO pc pa po fl r) hp.at_
      have hp1 := hp.put r
      have hf1 := lst_put (o := planO pc pa po fl r) hp.at_ hf
      have hk1 := lst_put (o := planO pc pa po fl r) hp.at_ hk
      rw [rdSs_cons]
      simp_arith [GG_call]
      refine ⟨isLst_of (h1.subC _ _ hf1), ?_⟩
      refine ih n (N + 2) _ _ s pp pc pa po pk fl lv nest r us _ _ hn hp1 hk1 tu (by omega) l0 l3 (h1.le (by omega)) fun st r' C2 v2 e2 d2 c2 h2 => ?_
      rw [cup_cup] at h2
      have hp2 := hp.put r'
      have hf2 := lst_put (o := planO pc pa po fl r') hp.at_ hf
      have hk2 := lst_put (o := planO pc pa po fl r') hp.at_ hk
      have keep2 : ∀ a u, a ≠ pp → a ≠ pf → a ≠ pk → B a = some u → cup B pp (planO pc pa po fl r') a = some u := fun a u n1 _ _ e => by rw [cup_ne n1]; exact e
      generalize cup B pp (planO pc pa po fl r') = B2 at h2 hp2 hf2 hk2 keep2
      refine ⟨pf, _, _, rfl, rfl, h2.subC _ _ hf2, by rw [T.ds_length, blT_len]; omega, ?_⟩
      have eb : T.ds (blT b) ++ [st.t.d] = T.ds (blT (b ++ [st])) := by rw [blT_append, ds_append]; rfl
      rw [eb]
      have h3 := h2.put (o := .lst (T.ds (blT (b ++ [st])))) hf2
      have npf : pp ≠ pf := fun z => by rw [← z, hp2.at_] at hf2; cases hf2
      have npk : pp ≠ pk := fun z => by rw [← z, hp2.at_] at hk2; cases hk2
      have hp3 : PlanIn (cup B2 pf (.lst (T.ds (blT (b ++ [st]))))) pp pc pa po fl r' := hp2.keep (by rw [cup_ne npf]; exact hp2.at_) fun a u m e => by rw [cup_ne (hN a m).1]; exact e
      have hf3 : cup B2 pf (.lst (T.ds (blT (b ++ [st])))) pf = some (.lst (T.ds (blT (b ++ [st])))) := cup_same
      have hk3 : cup B2 pf (.lst (T.ds (blT (b ++ [st])))) pk = some (.lst (vds us)) := by rw [cup_ne (Ne.symm nfk)]; exact hk2
      have keep3 : ∀ a u, a ≠ pp → a ≠ pf → a ≠ pk → B a = some u → cup B2 pf (.lst (T.ds (blT (b ++ [st])))) a = some u := fun a u n1 n2 n3 e => by rw [cup_ne n2]; exact keep2 a u n1 n2 n3 e
      generalize cup B2 pf (.lst (T.ds (blT (b ++ [st])))) = B3 at h3 hp3 hf3 hk3 keep3
      generalize cup C2 pf (.lst (T.ds (blT (b ++ [st])))) = C3 at h3
      have hne : T.ds (blT (b ++ [st])) ≠ [] := by rw [← eb]; simp
      have hla : L2.atI (T.ds (blT (b ++ [st]))) (-1) = some st.t.d := by
        rw [atI_last hne]
        congr 1
        simp only [← eb, List.getLast_append, List.getLast_singleton]
        simp
      have hV3 : preV fl (b ++ [st]) lv vs0 = true := by
        rw [preV_append, hV, hK]
        simp [preV, v2, e2]
      have hd3 : blDp (b ++ [st]) ≤ d := by
        rw [blDp_append]
        simp only [blDp]; omega
      have hc3 : (b ++ [st]).length + cntL (b ++ [st]) + r' = b.length + cntL b + (r + 1) := by
        rw [cntL_append]
        simp only [List.length_append, List.length_cons, List.length_nil, cntL]; omega
      dsimp only
      rw [rdSs_cons]
      simp_arith []
      refine oIxA_lst (h3.subC _ _ hf3) hla ?_
      rw [hd_d]
      simp_arith [oEqN_strI (hd_ok st) sw_call]
      by_cases hcall : st.hd = "call"
      · rw [if_pos (decide_eq_true hcall), rdSs_cons]
        obtain ⟨v, rfl⟩ := hd_call hcall
        obtain ⟨w, rfl, tw, aw⟩ := askP_inv v2
        simp_arith []
        refine ⟨isLst_of (h3.subC _ _ hk3), ?_⟩
        refine oIxA_lst (h3.subC _ _ hf3) hla ?_
        simp_arith [St1.t, T.d, T.ds]
        refine ⟨pk, _, _, rfl, rfl, h3.subC _ _ hk3, by rw [vds_map, List.length_map]; omega, ?_⟩
        have eu : vds us ++ [w.t.d] = vds (us ++ [w]) := by rw [vds_append]; rfl
        rw [eu]
        have h4 := h3.put (o := .lst (vds (us ++ [w]))) hk3
        refine blk_loop ih hn l0 l3 nfk hN js _ _ (b ++ [.call w.t]) (us ++ [w]) r' _ (hp3.keep (by rw [cup_ne npk]; exact hp3.at_) fun a u m e => by rw [cup_ne (hN a m).2]; exact e) (by rw [cup_ne nfk]; exact hf3) cup_same ⟨fun x hx => ?_, by have := tu.len; simp; omega⟩ (by simp; omega) hV3 ?_ hd3 (by simp; omega) (h4.le (by omega)) fun B' C' b' r'' x5' k4 p4 f4 v4 d4 c4 l4 h4 => hD B' C' b' r'' x5' (fun a u n1 n2 n3 e => k4 a u n1 n2 n3 (by rw [cup_ne n3]; exact keep3 a u n1 n2 n3 e)) p4 f4 v4 d4 (by omega) l4 h4
        · rcases List.mem_append.mp hx with hx | hx
          · exact tu.good x hx
          · rw [List.mem_singleton.mp hx]; exact ⟨tw.good, tw.h, tw.top, aw⟩
        · rw [endK_append, hK, List.map_append]; rfl
      · rw [if_neg (by simp [hcall])]
        refine blk_loop ih hn l0 l3 nfk hN js _ _ (b ++ [st]) us r' _ hp3 hf3 hk3 tu (by omega) hV3 ?_ hd3 (by simp; omega) (h3.le (by omega)) fun B' C' b' r'' x5' k4 p4 f4 v4 d4 c4 l4 h4 => hD B' C' b' r'' x5' (fun a u n1 n2 n3 e => k4 a u n1 n2 n3 (keep3 a u n1 n2 n3 e)) p4 f4 v4 d4 (by omega) l4 h4
        rw [endK_append, hK]
        cases st with
        | call v => exact absurd rfl hcall
        | _ => rfl
theorem ite_W {p : Bool} {m : Nat} {f : Nat} {a : D} {x y : Int} {C : CH} {K : Kv} {E : Kx} (hx : 1 ≤ x ∧ x ≤ 12) (hy : 1 ≤ y ∧ y ≤ 12) (h : ∀ z : Int, 1 ≤ z → z ≤ 12 → W m f [a, .int z] C K E) : if p = true then W m f [a, .int x] C K E else W m f [a, .int y] C K E := by
  split
  · exact h x hx.1 hx.2
  · exact h y hy.1 hy.2
theorem blk_drawn {d : Nat} (h1 : 1 ≤ d) (ih : StmD d) : BlkD d := by
  intro n N B C s pp pc pa po pv fl lv nest room vs Q E hn hp hv tv hvl l0 l3 h hq
  have hsl : 1000000 ≤ sizeLine := by decide
  rw [W__law_block]
  unfold b__law_block
  rw [rdSs_cons]
  simp_arith [oLst]
  intro pf hpf
  obtain ⟨B1, s1, a1, h1'⟩ := h.grow (o := .lst []) hpf
  have bpf := h.no hpf
  refine ⟨_, _, rfl, SqC_ref.mpr (h1'.subC _ _ (s1 _ _ hv)), fun pk hpk => ⟨_, _, ⟨rfl, rfl⟩, ?_⟩⟩
  obtain ⟨B2, s2, a2, h2⟩ := h1'.grow (o := .lst (vds vs)) hpk
  have bpk := My.Sub.no s1 (h1'.no hpk)
  have nfk : pf ≠ pk := fun z => by have := h1'.no hpk; rw [← z, a1] at this; cases this
  have s12 := s1.trans s2
  have hN : ∀ p, p = pc ∨ p = pa ∨ p = po → p ≠ pf ∧ p ≠ pk := by
    have nz : ∀ {p xs}, B p = some (CO.lst xs) → p ≠ pf ∧ p ≠ pk := fun {p xs} e => ⟨fun z => (by rw [z, bpf] at e; cases e), fun z => (by rw [z, bpk] at e; cases e)⟩
    obtain ⟨_, ⟨⟨z1, k1⟩, ⟨z2, k2⟩, ⟨z3, k3⟩, _, _⟩⟩ := hp
    rintro p (rfl | rfl | rfl)
    · exact nz k1.at_
    · exact nz k2.at_
    · exact nz k3.at_
  have hp2 : PlanIn B2 pp pc pa po fl room := hp.keep (s12 _ _ hp.at_) fun a u _ e => s12 _ _ e
  have hf2 : B2 pf = some (.lst (T.ds (blT []))) := s2 _ _ a1
  generalize cup (cup C pf (.lst [])) pk (.lst (vds vs)) = C2 at h2
  rw [rdSs_cons]
  simp_arith [sFor, iRg1, GG_call]
  have e5 : n + 2 * d + 5 = (n + 2 * d + 3) + 2 := by omega
  have fin : ∀ (B' C' : CH) (b' : List St1) (r : Nat) (x5' : Option D), (∀ a u, a ≠ pp → a ≠ pf → a ≠ pk → B2 a = some u → B' a = some u) → PlanIn B' pp pc pa po fl r → B' pf = some (.lst (T.ds (blT b'))) → loV fl b' lv (vs.map Vv.t) = true → blDp b' ≤ d → (b'.length + cntL b') + r = room → St B' C' s (N + 20 * r) →
      rdSs (GG (n + 2 * d + 5)) (exN E) (b__law_block.drop 3) (endN Q) [some (.ref s), some (.ref pp), some (.int lv), some (.ref pv), some (.int nest), x5', some (.ref pf), some (.ref pk)] C' := by
    intro B' C' b' r x5' k p' f' v' d' c' h'
    simp only [b__law_block, List.drop]
    rw [rdSs_cons]
    simp_arith []
    refine ⟨_, _, rfl, SqC_ref.mpr (h'.subC _ _ f'), C', Sub.refl, hq b' r C' v' d' c' (h'.drop fun a u e => ?_)⟩
    by_cases z : a = pp
    · subst z; rw [cup_same] at e; rw [← e]; exact p'.at_
    · rw [cup_ne z] at e
      exact k a u z (fun y => by rw [y, bpf] at e; cases e) (fun y => by rw [y, bpk] at e; cases e) (s12 _ _ e)
  have body : ∀ C3 (m : Nat), m ≤ 5 → St B2 C3 s (N + 20 * room + 2) → forL (hT (.nm 5)) (rdSs (GG (n + 2 * d + 5)) (exN E) dblkB) (fun _ => True) { nx := rdSs (GG (n + 2 * d + 5)) (exN E) (b__law_block.drop 2) (endN Q), rt := (endN Q).rt, bk := (endN Q).bk, ct := (endN Q).ct } (rngD 0 m) [some (.ref s), some (.ref pp), some (.int lv), some (.ref pv), some (.int nest), none, some (.ref pf), some (.ref pk)] C3 := by
    intro C3 m hm h3
    have hjt : (rngD 0 m).length = m := by simp [rngD]
    refine blk_loop (d := d) (n := n) (N := N) ih hn l0 l3 nfk hN (rngD 0 m) B2 C3 [] vs room none hp2 hf2 a2 tv (by rw [hjt]; omega) rfl rfl (by simpa [blDp] using h1) (by rw [hjt]; simp; omega) h3 fun B' C' b' r x5' k p' f' v' d' c' l' h' => ?_
    simp only [List.length_nil, cntL] at c'
    dsimp only
    have go := fin B' C' b' r x5' k p' f' (pre_loV _ _ v') d' (by omega) (h'.le (by omega))
    simp only [b__law_block, List.drop] at go ⊢
    rw [rdSs_cons]
    simp_arith []
    by_cases hl : lv > 0
    · rw [if_pos (decide_eq_true hl)]
      simp_arith [pl_room (h'.subC _ _ p'.at_)]
      by_cases hr : (r : Int) > 0
      · rw [if_pos (decide_eq_true hr)]
        simp_arith [GG_call]
        have tk : ∀ z : Int, 1 ≤ z → z ≤ 12 → ∀ (Q' : Kv) (E' : Kx), (∀ k C', St B' C' s (N + 20 * r + 1) → Q' (.int k) C') → W (n + 2 * d + 5) i__law_take [.ref s, .int z] C' Q' E' := fun z z1 z2 Q' E' hQ => by
          rw [e5]
          exact take_ok (N := N + 20 * r + 1) h' z1 (by omega) fun k C4 _ _ h4 => hQ k C4 h4
        refine ite_W (by decide) (by decide) fun z z1 z2 => tk z z1 z2 _ _ fun kk C4 h4 => ?_
        simp_arith []
        by_cases hk0 : kk = 0
        · rw [if_pos (decide_eq_true hk0), rdSs_cons]
          simp_arith [pl_room (h4.subC _ _ p'.at_)]
          obtain ⟨q, rfl⟩ : ∃ q : Nat, r = q + 1 := ⟨r - 1, by omega⟩
          refine pl_set (h4.subC _ _ p'.at_) ?_
          rw [show ((q + 1 : Nat) : Int) - 1 = (q : Nat) by omega]
          have h5 := h4.put (o := planO pc pa po fl q) p'.at_
          have p5 := p'.put q
          have f5 := lst_put (o := planO pc pa po fl q) p'.at_ f'
          have k5 : ∀ a u, a ≠ pp → a ≠ pf → a ≠ pk → B2 a = some u → cup B' pp (planO pc pa po fl q) a = some u := fun a u n1 n2 n3 e => by rw [cup_ne n1]; exact k a u n1 n2 n3 e
          generalize cup B' pp (planO pc pa po fl q) = B5 at h5 p5 f5 k5
          generalize cup C4 pp (planO pc pa po fl q) = C5 at h5
          rw [rdSs_cons]
          simp_arith [oLst, GG_call]
          refine ⟨isLst_of (h5.subC _ _ f5), fun pw hpw => ?_⟩
          have e5' : n + 2 * d + 5 = (n + 2 * d + 2) + 3 := by omega
          rw [e5']
          refine pick_ok (n := n + 2 * d + 2) (N := N + 20 * q) ((h5.alloc hpw).le (by omega)) cup_same (by simp) (by simp) fun dw C6 hdw h6 => ?_
          have h6 := h6.drop (sub_new (h5.no hpw))
          obtain ⟨st, est, ee, edp, ec, eV⟩ : ∃ st : St1, D.tup [dw] = st.t.d ∧ isEnd st = true ∧ st.dp = 0 ∧ cntS st = 0 ∧ ∀ lv vs, stV fl st lv vs = true := by
            simp only [List.mem_cons, List.not_mem_nil, or_false] at hdw
            rcases hdw with e | e <;> subst e
            · exact ⟨.brk, rfl, rfl, rfl, rfl, fun _ _ => rfl⟩
            · exact ⟨.cont, rfl, rfl, rfl, rfl, fun _ _ => rfl⟩
          rw [est, ← e5']
          refine ⟨pf, _, _, rfl, rfl, h6.subC _ _ f5, by rw [T.ds_length, blT_len]; omega, ?_⟩
          have eb : T.ds (blT b') ++ [st.t.d] = T.ds (blT (b' ++ [st])) := by rw [blT_append, ds_append]; rfl
          rw [eb]
          have npf : pp ≠ pf := fun z => by rw [← z, p5.at_] at f5; cases f5
          have h7 := h6.put (o := .lst (T.ds (blT (b' ++ [st])))) f5
          have go := fin _ _ (b' ++ [st]) q x5' (fun a u n1 n2 n3 e => by rw [cup_ne n2]; exact k5 a u n1 n2 n3 e) (p5.keep (by rw [cup_ne npf]; exact p5.at_) fun a u m e => by rw [cup_ne (hN a m).1]; exact e) cup_same ?_ ?_ ?_ h7
          · simp only [b__law_block, List.drop] at go
            exact go
          · rw [loV_append, v']
            have : ¬ lv = 0 := by omega
            simp [loV, eV, this]
          · rw [blDp_append]
            simp only [blDp, edp]; omega
          · rw [cntL_append]
            simp only [List.length_append, List.length_cons, List.length_nil, cntL, ec]; omega
        · rw [if_neg (by simp [hk0])]
          have go := fin B' C4 b' r x5' k p' f' (pre_loV _ _ v') d' (by omega) (h4.le (by omega))
          simp only [b__law_block, List.drop] at go
          exact go
      · rw [if_neg (by rw [decide_eq_false hr]; decide)]
        exact go
    · rw [if_neg (by simp [hl])]
      exact go
  have tk : ∀ z : Int, 1 ≤ z → z ≤ 6 → ∀ (Q' : Kv) (E' : Kx), (∀ (k : Nat) C', k < z → St B2 C' s (N + 20 * room + 2) → Q' (.int k) C') → W (n + 2 * d + 5) i__law_take [.ref s, .int z] C2 Q' E' := fun z z1 z2 Q' E' hQ => by
    rw [e5]
    exact take_ok (N := N + 20 * room + 2) h2 z1 (by omega) fun k C4 k1 k2 h4 => by
      have := hQ k.toNat C4 (by omega) h4
      rwa [Int.toNat_of_nonneg k1] at this
  by_cases hn1 : nest = 1
  · rw [if_pos (decide_eq_true hn1)]
    refine tk 6 (by decide) (by decide) _ _ fun k C3 hk h3 => ?_
    exact ⟨_, rfl, by omega, by omega, body C3 k (by omega) h3⟩
  · rw [if_neg (by simp [hn1])]
    refine tk 4 (by decide) (by decide) _ _ fun k C3 hk h3 => ?_
    exact ⟨_, rfl, by omega, by omega, body C3 k (by omega) h3⟩
theorem blk_all : ∀ d, 1 ≤ d → BlkD d
  | 0, h => absurd h (by decide)
  | d + 1, h => blk_drawn h (stm_drawn h fun h2 => blk_all d (by omega))

/-! lists of bools -/
theorem eqv_bools : ∀ (xs ys : List Bool), PyData.eqvAll (xs.map PyData.bool) (ys.map PyData.bool) = decide (xs = ys)
  | [], [] => by simp [PyData.eqvAll]
  | [], _ :: _ => by simp [PyData.eqvAll]
  | _ :: _, [] => by simp [PyData.eqvAll]
  | x :: xs, y :: ys => by
    simp only [List.map_cons, PyData.eqvAll, eqv_bools xs ys, PyData.eqv]
    cases x <;> cases y <;> simp
theorem snap_bools (C : CH) : ∀ ns : List Bool, SnapL C (ns.map D.bl) (ns.map PyData.bool)
  | [] => .nil
  | n :: ns => .cons (.bl n) (snap_bools C ns)
theorem deep_bools : ∀ ns : List Bool, PyData.canLayAll0 (ns.map PyData.bool) = true ∧ PyData.depthAll (ns.map PyData.bool) = 0
  | [] => ⟨rfl, rfl⟩
  | n :: ns => by
    obtain ⟨h1, h2⟩ := deep_bools ns
    exact ⟨h1, by show max 0 _ = 0; rw [h2]; rfl⟩
theorem deepOk_bools (ns : List Bool) : deepOk (.list (ns.map PyData.bool)) = true := by
  obtain ⟨h1, h2⟩ := deep_bools ns
  have e : (PyData.list (ns.map PyData.bool)).depth ≤ 350 := by
    show PyData.depthAll _ + 1 ≤ 350
    omega
  unfold deepOk
  rw [decide_eq_true e, Bool.and_true]
  exact h1
theorem shaped_bools (ns : List Bool) : SeqAt.shaped (.list (ns.map PyData.bool)) = true := by
  obtain ⟨h1, h2⟩ := deep_bools ns
  have e : (PyData.list (ns.map PyData.bool)).depth ≤ 64 := by
    show PyData.depthAll _ + 1 ≤ 64
    omega
  unfold SeqAt.shaped
  rw [decide_eq_true e, Bool.and_true]
  exact h1
theorem bools_eqN {C : CH} {a b : Addr} {xs ys : List Bool} {Q : Kv} (ha : C a = some (.lst (xs.map D.bl))) (hb : C b = some (.lst (ys.map D.bl))) (q : Q (.bl (decide (xs = ys))) C) : oEqN id (.ref a) (.ref b) C Q :=
  ⟨_, _, .lst ha (snap_bools C xs), .lst hb (snap_bools C ys), deepOk_bools xs, deepOk_bools ys, by rw [PyData.eqv, eqv_bools]; exact q⟩
theorem bools_eq {C : CH} {a b : Addr} {xs ys : List Bool} {Q : Kv} (ha : C a = some (.lst (xs.map D.bl))) (hb : C b = some (.lst (ys.map D.bl))) (q : Q (.bl (decide (xs = ys))) C) : oEq id (.ref a) (.ref b) C Q :=
  ⟨_, _, .lst ha (snap_bools C xs), .lst hb (snap_bools C ys), shaped_bools xs, shaped_bools ys, by rw [PyData.eqv, eqv_bools]; exact q⟩

/-! k05: programs made within a round -/
def lawO : List CS := match b_law with
  | _ :: .forS _ _ _ b :: _ => b
  | _ => []
theorem blk_new {N : Nat} {B C : CH} {s pp pc pa po p : Addr} {fl : List Str} {lv : Int} {room : Nat} {Q : Kv} {E : Kx} (h : St B C s (N + 20 * room + 3)) (hp : PlanIn B pp pc pa po fl room) (l0 : 0 ≤ lv) (l3 : lv ≤ 3) (hpn : C p = none)
    (hq : ∀ b (r : Nat) C', loV fl b lv [] = true → blDp b ≤ 6 → (b.length + cntL b) + r = room → St (cup B pp (planO pc pa po fl r)) C' s (N + 20 * r) → Q (.tup (bds b)) C') : W 199 i__law_block [.ref s, .ref pp, .int lv, .ref p, .int 1] (cup C p (.lst [])) Q E := by
  obtain ⟨B1, s1, a1, h1⟩ := h.grow (o := .lst []) hpn
  have hp1 : PlanIn B1 pp pc pa po fl room := hp.keep (s1 _ _ hp.at_) fun a u _ e => s1 _ _ e
  exact blk_all 6 (by decide) 181 N B1 _ s pp pc pa po p fl lv 1 room [] _ _ (by decide) hp1 a1 ⟨fun _ h => (nomatch h), by simp⟩ (by simp) l0 l3 h1 fun b r C' v d c h' => hq b r C' v d c (h'.drop (sub_cup s1))
theorem made_st {n N : Nat} {B C : CH} {s p : Addr} {fl : List Str} {a b : List St1} {E : Kx} {K : CH → Prop} (h : St B C s N) (k : PrV fl a b) (hp : C p = none) (hq : ∀ B' C', Sub B B' → Sub C C' → B' p = some (PrO fl a b) → St B' C' s N → K C') : W (n + 28) i_Program___init__ [.ref p, .tup (bds a), .tup (bds b), .tup (fl.map D.str)] (cup C p (.ins c_Program [])) (fun v C2 => v = .non ∧ K C2) E := by
  unfold bds
  refine made (n := n) k hp fun C' s' hp' => ?_
  obtain ⟨B', k1, k2, k3⟩ := h.up s'
  exact hq B' C' k1 s' (k3 _ _ hp hp') k2
/-- within a round: the list of other things stands at p5 -/
structure Mid (C0 B C : CH) (s p5 p11 : Addr) (N : Nat) (fl : List Str) (a b : List St1) (ds : List D) : Prop where
  st : St B C s N
  l : B p5 = some (.lst ds)
  u : ∀ y ∈ ds, Unl B fl a b y
  p : B p11 = some (PrO fl a b)
  sub : Sub C0 B
  n5 : C0 p5 = none
  len : ds.length ≤ 30
section
variable {C0 B C : CH} {s p5 p11 : Addr} {N : Nat} {fl : List Str} {a b : List St1} {ds : List D}
theorem Unl.put {o : CO} {y : D} (h : B p5 = some (.lst ds)) (u : Unl B fl a b y) : Unl (cup B p5 o) fl a b y := by
  rcases u with u | ⟨q, fl', a', b', h1, h2, h3⟩
  · exact .inl u
  · exact .inr ⟨q, fl', a', b', h1, by rw [cup_ne (fun z => by rw [z, h] at h2; cases h2)]; exact h2, h3⟩
theorem Mid.app {y : D} (M : Mid C0 B C s p5 p11 N fl a b ds) (u : Unl B fl a b y) (hl : ds.length < 30) : Mid C0 (cup B p5 (.lst (ds ++ [y]))) (cup C p5 (.lst (ds ++ [y]))) s p5 p11 N fl a b (ds ++ [y]) := by
  refine ⟨M.st.put M.l, cup_same, fun z hz => ?_, ?_, sub_at M.n5 M.sub, M.n5, by simp; omega⟩
  · rcases List.mem_append.mp hz with hz | hz
    · exact (M.u z hz).put M.l
    · rw [List.mem_singleton.mp hz]; exact u.put M.l
  · rw [cup_ne (fun z => by have := M.p; rw [z, M.l] at this; cases this)]; exact M.p
theorem Mid.step {B' C' : CH} {M' : Nat} (M : Mid C0 B C s p5 p11 N fl a b ds) (k : Sub B B') (h : St B' C' s M') : Mid C0 B' C' s p5 p11 M' fl a b ds :=
  ⟨h, k _ _ M.l, fun y hy => (M.u y hy).sub k, k _ _ M.p, M.sub.trans k, M.n5, M.len⟩
theorem Mid.lists {ds2 : List D} {q r : Addr} (M : Mid C0 B C s p5 p11 N fl a b ds) (h2 : ∀ y ∈ ds2, Unl B fl a b y) (hl : ds.length + ds2.length ≤ 30) (hq : C q = none) (hr : cup C q (.lst ds2) r = none) : ∃ B', Mid C0 B' (cup (cup C q (.lst ds2)) r (.lst (ds ++ ds2))) s r p11 N fl a b (ds ++ ds2) := by
  obtain ⟨B', k, e, h'⟩ := (M.st.sub (sub_new (o := .lst ds2) hq)).grow (o := .lst (ds ++ ds2)) hr
  refine ⟨B', h', e, fun y hy => ?_, k _ _ M.p, M.sub.trans k, My.Sub.no (M.sub.trans (M.st.subC.trans (sub_new hq))) hr, by simp; omega⟩
  rcases List.mem_append.mp hy with hy | hy
  · exact (M.u y hy).sub k
  · exact (h2 y hy).sub k
end
/-! programs of a line -/
theorem fl_nil : FlOk [] := ⟨by simp, by simp⟩
theorem bare_pr {fl : List Str} {s0 : St1} (f : FlOk fl) (fn : fl.length ≤ 5) (fw : Free s0) : PrV fl [.emit (.int 1), s0] [] := by
  refine ⟨f, fn, ?_, rfl, ?_, by simp only [blDp]; omega, ?_⟩
  · have e1 : stV fl (.emit (.int 1)) 1 [] = true := rfl
    have e2 : isEnd (.emit (.int 1)) = false := rfl
    have e3 : nextK [] (.emit (.int 1)) = [] := rfl
    simp only [loV, e1, e2, e3, fw.v, fw.e, fw.n, Bool.false_and, Bool.not_false, Bool.and_true]
  · simp only [blDp, fw.d, St1.dp]; omega
  · simp only [cntL, cntS, fw.c, List.length_cons, List.length_nil]; omega
theorem one_pr {s0 : St1} (fw : Free s0) : PrV [] [s0] [] := by
  refine ⟨fl_nil, by simp, ?_, rfl, ?_, by simp only [blDp]; omega, ?_⟩
  · simp only [loV, fw.v, fw.e, fw.n, Bool.false_and, Bool.not_false, Bool.true_and]
  · simp only [blDp, fw.d]; omega
  · simp only [cntL, fw.c, List.length_cons, List.length_nil]; omega
theorem nil_pr : PrV [] [] [] := ⟨fl_nil, by simp, rfl, rfl, by simp only [blDp]; omega, by simp only [blDp]; omega, by simp only [cntL, List.length_nil]; omega⟩
section
variable {n N : Nat} {B C : CH} {s p : Addr} {fl : List Str} {s0 : St1} {E : Kx} {K : CH → Prop}
theorem made_bare (h : St B C s N) (k : PrV fl [.emit (.int 1), s0] []) (hp : C p = none) (hq : ∀ B' C', Sub B B' → Sub C C' → B' p = some (PrO fl [.emit (.int 1), s0] []) → St B' C' s N → K C') : W (n + 28) i_Program___init__ [.ref p, .tup [.tup [.str "emit", .int 1], s0.t.d], .tup [], .tup (fl.map D.str)] (cup C p (.ins c_Program [])) (fun v C2 => v = .non ∧ K C2) E := by
  have e1 : D.tup [.tup [.str "emit", .int 1], s0.t.d] = D.tup (bds [.emit (.int 1), s0]) := rfl
  have e0 : D.tup [] = D.tup (bds []) := rfl
  rw [e1, e0]
  exact made_st (n := n) h k hp hq
theorem made_one (h : St B C s N) (k : PrV [] [s0] []) (hp : C p = none) (hq : ∀ B' C', Sub B B' → Sub C C' → B' p = some (PrO [] [s0] []) → St B' C' s N → K C') : W (n + 28) i_Program___init__ [.ref p, .tup [s0.t.d], .tup [], .tup []] (cup C p (.ins c_Program [])) (fun v C2 => v = .non ∧ K C2) E := by
  have := made_st (n := n) (E := E) h k hp hq
  have e1 : D.tup (bds [s0]) = D.tup [s0.t.d] := rfl
  have e0 : D.tup (bds []) = D.tup [] := rfl
  have e2 : D.tup (([] : List Str).map D.str) = D.tup [] := rfl
  rw [e1, e0, e2] at this
  exact this
theorem made_nil (h : St B C s N) (hp : C p = none) (hq : ∀ B' C', Sub B B' → Sub C C' → B' p = some (PrO [] [] []) → St B' C' s N → K C') : W (n + 28) i_Program___init__ [.ref p, .tup [], .tup [], .tup []] (cup C p (.ins c_Program [])) (fun v C2 => v = .non ∧ K C2) E := by
  have := made_st (n := n) (E := E) h nil_pr hp hq
  have e0 : D.tup (bds []) = D.tup [] := rfl
  have e2 : D.tup (([] : List Str).map D.str) = D.tup [] := rfl
  rw [e0, e2] at this
  exact this
end
/-- a list of data against the same -/
theorem ne_ts {C : CH} {p r : Addr} {ts : List T} {Q : Kv} (ok : ∀ t ∈ ts, okT t = true ∧ t.p.depth ≤ 300) (h : C p = some (.lst (T.ds ts))) (h2 : C r = some (.lst (T.ds ts))) (q : Q (.bl false) C) : oEqN not (.ref p) (.ref r) C Q := by
  obtain ⟨d1, d2⟩ := deep_ts ts ok
  have e : deepOk (PyData.list (T.pl ts)) = true := by
    have e : (PyData.list (T.pl ts)).depth ≤ 350 := by
      show PyData.depthAll _ + 1 ≤ 350
      omega
    unfold deepOk
    rw [decide_eq_true e, Bool.and_true]
    exact d1
  refine ⟨.list (T.pl ts), .list (T.pl ts), .lst h (T.snaps C ts), .lst h2 (T.snaps C ts), e, e, ?_⟩
  have : PyData.eqv (.list (T.pl ts)) (.list (T.pl ts)) = true := by
    have := eqv_refl (.tup ts)
    exact this
  rw [this]; exact q

/-! k05: the end of a round -/
theorem tail_ok {N : Nat} {ex : Kxs} {Dd : EndsC} {C0 B C : CH} {s p7 p11 : Addr} {s00 : St1} {fl : List Str} {a b : List St1} {ds : List D} {x0 x2 x3 x6 x7 x12 x13 : Option D} (hB : Base fl a b) (fw : Free s00) (M : Mid C0 B C s p7 p11 (N + 320) fl a b ds)
    (hD : ∀ C' x3 x4 x5 x6 x7 x8 x9 x10 x11 x12 x13, St C0 C' s N → Dd.nx [x0, some (.ref s), x2, x3, x4, x5, x6, x7, x8, x9, x10, x11, x12, x13] C') :
    rdSs (GG 199) ex (lawO.drop 13) Dd [x0, some (.ref s), x2, x3, some s00.t.d, some (.ref p7), x6, x7, some (.tup (bds a)), some (.tup (bds b)), some (.tup (fl.map D.str)), some (.ref p11), x12, x13] C := by
  simp only [lawO, b_law, List.drop]
  rw [rdSs_cons]
  simp_arith [GG_call]
  refine unlike_ok (n := 196) hB.pr (M.st.subC _ _ M.p) (M.st.subC _ _ M.l) (fun y hy => (M.u y hy).sub M.st.subC) ?_
  refine ⟨_, rfl, ?_⟩
  rw [if_neg (by decide)]
  have h1 := M.st.drop M.sub
  clear M
  rw [rdSs_cons]
  simp_arith [cMake, GG_make]
  intro p hp
  refine made_bare (n := 170) h1 (bare_pr hB.f (by have := hB.fn; omega) fw) hp fun B1 C1 k1 m1 e1 h2 => ?_
  rw [rdSs_cons]
  simp_arith [oLst]
  have e1 := h2.subC _ _ e1
  have v7 : ∀ (y12 y13 : Option D) C (Q' : Kv), Q' (.ref p) C → cVar 7 [x0, some (.ref s), x2, x3, some s00.t.d, some (.ref p7), x6, some (.ref p), some (.tup (bds a)), some (.tup (bds b)), some (.tup (fl.map D.str)), some (.ref p11), y12, y13] C Q' := fun _ _ _ Q' h => by simp_arith []; exact h
  have hb := bare_pr hB.f (by have := hB.fn; omega) fw
  refine attr_b (fun Q' h => v7 _ _ _ Q' h) e1 (attr_o (fun Q' h => v7 _ _ _ Q' h) e1 (attr_f (fun Q' h => v7 _ _ _ Q' h) e1 ?_))
  intro q1 hq1
  intro q2 hq2
  have h3 := (h2.sub (sub_new (o := .lst [(T.tup (blT [.emit (.int 1), s00])).d, (T.tup (blT [])).d, D.tup (fl.map D.str)]) hq1)).sub (sub_new (o := .lst [.tup [.tup [.str "emit", .int 1], s00.t.d], .tup [], .tup (fl.map D.str)]) hq2)
  have eL : T.ds [T.tup (blT [.emit (.int 1), s00]), T.tup (blT []), T.tup (fl.map T.str)] = [(T.tup (blT [.emit (.int 1), s00])).d, (T.tup (blT [])).d, D.tup (fl.map D.str)] := by
    rw [← flags_d]; rfl
  have eL2 : T.ds [T.tup (blT [.emit (.int 1), s00]), T.tup (blT []), T.tup (fl.map T.str)] = [.tup [.tup [.str "emit", .int 1], s00.t.d], .tup [], .tup (fl.map D.str)] := by
    rw [← flags_d]; rfl
  have okL : ∀ t ∈ [T.tup (blT [.emit (.int 1), s00]), T.tup (blT []), T.tup (fl.map T.str)], okT t = true ∧ t.p.depth ≤ 300 := fun t ht => by
    simp only [List.mem_cons, List.not_mem_nil, or_false] at ht
    rcases ht with e | e | e <;> subst e
    · exact ⟨hb.na.ok, Nat.le_trans hb.na.dp (by decide)⟩
    · exact ⟨hb.nb.ok, Nat.le_trans hb.nb.dp (by decide)⟩
    · exact ⟨hb.nf.ok, Nat.le_trans hb.nf.dp (by decide)⟩
  refine ne_ts okL (by rw [eL]; exact cup_old hq2 cup_same) (by rw [eL2]; exact cup_same) ⟨_, rfl, ?_⟩
  rw [if_neg (by decide)]
  clear okL eL eL2
  generalize cup (cup C1 q1 _) q2 _ = C2 at h3
  clear h2 hp hq1 hq2 e1 v7
  have h4 := h3.drop k1
  rw [rdSs_cons]
  simp_arith [cMake, GG_make]
  intro p3 hp3
  refine made_one (n := 170) h4 (one_pr fw) hp3 fun B4 C3 k4 m4 e4 h5 => ?_
  intro p4 hp4
  refine made_one (n := 170) h5 (one_pr fw) hp4 fun B5 C4 k5 m5 e5 h6 => ?_
  replace e4 := k5 _ _ e4
  refine eqO_pr (n := 197) (one_pr fw) (one_pr fw) (h6.subC _ _ e4) (h6.subC _ _ e5) ⟨_, rfl, ?_⟩
  rw [eqPr_refl, if_neg (by decide)]
  have h7 := (h6.drop k5).drop k4
  clear h4 h5 h6 e4 e5 m4 m5 hp3 hp4
  intro p5 hp5
  refine made_nil (n := 170) h7 hp5 fun B6 C5 k6 m6 e6 h8 => ?_
  intro p6 hp6
  refine made_nil (n := 170) h8 hp6 fun B7 C6 k7 m7 e7 h9 => ?_
  replace e6 := k7 _ _ e6
  refine eqO_pr (n := 197) nil_pr nil_pr (h9.subC _ _ e6) (h9.subC _ _ e7) ⟨_, rfl, ?_⟩
  rw [eqPr_refl, if_neg (by decide)]
  have h10 := (h9.drop k7).drop k6
  exact hD _ _ _ _ _ _ _ _ _ _ _ _ (h10.le (by omega))

/-! k05: one round of the law -/
theorem turn_ok {N : Nat} {ex : Kxs} {Dd : EndsC} {C0 C : CH} {s : Addr} {x0 x2 x3 x4 x5 x6 x7 x8 x9 x10 x11 x12 x13 : Option D} (h : St C0 C s (N + 1000))
    (hD : ∀ C' x3 x4 x5 x6 x7 x8 x9 x10 x11 x12 x13, St C0 C' s N → Dd.nx [x0, some (.ref s), x2, x3, x4, x5, x6, x7, x8, x9, x10, x11, x12, x13] C') :
    rdSs (GG 199) ex lawO Dd [x0, some (.ref s), x2, x3, x4, x5, x6, x7, x8, x9, x10, x11, x12, x13] C := by
  have hsl : 1000000 ≤ sizeLine := by decide
  simp only [lawO, b_law]
  rw [rdSs_cons]
  simp_arith [GG_call]
  refine plan_ok (n := 194) (N := N + 800) (h.le (by omega)) fun pp pc pa po fl B0 C1 s0 npp hpl h1 => ?_
  replace h1 : St (cup B0 pp (planO pc pa po fl (16 : Nat))) C1 s (N + 800) := h1
  have hp : PlanIn (cup B0 pp (planO pc pa po fl (16 : Nat))) pp pc pa po fl 16 := ⟨cup_same, hpl.sub (sub_new npp)⟩
  have sB : ∀ r : Nat, Sub C0 (cup (cup B0 pp (planO pc pa po fl (16 : Nat))) pp (planO pc pa po fl r)) := fun r => by
    rw [cup_cup]; exact s0.trans (sub_new npp)
  generalize cup B0 pp (planO pc pa po fl (16 : Nat)) = B1 at hp sB h1
  rw [rdSs_cons]
  simp_arith [GG_call, oLst]
  intro pv hpv
  refine blk_new (N := N + 403) (h1.le (by omega)) hp (by decide) (by decide) hpv fun a r1 C2 v1 d1 c1 h2 => ?_
  intro pv2 hpv2
  refine blk_new (N := N + 400) (h2.le (by omega)) (hp.put r1) (by decide) (by decide) hpv2 fun b r2 C3 v2 d2 c2 h3 => ?_
  rw [cup_cup] at h3
  have hp3 := hp.put r2
  have sB := sB r2
  generalize cup B1 pp (planO pc pa po fl r2) = B at h3 hp3 sB
  clear hp h1 h2
  have h3 := h3.le (M := N + 400) (by omega)
  have hB : Base fl a b := ⟨hpl.ok, hpl.len, v1, v2, d1, d2, by omega⟩
  rw [pl_flags (h3.subC _ _ hp3.at_)]
  rw [rdSs_cons]
  simp_arith [cMake, GG_make]
  intro p11 hp11
  refine made_st (n := 170) h3 hB.pr hp11 fun B2 C4 k2 m4 e11 h4 => ?_
  intro p12 hp12
  refine made_st (n := 170) h4 hB.pr hp12 fun B3 C5 k3 m5 e12 h5 => ?_
  replace e11 := k3 _ _ e11
  refine ⟨_, _, ⟨rfl, rfl⟩, ?_⟩
  have sB3 : Sub C0 B3 := (sB.trans k2).trans k3
  clear h4 h3 hp3 m4 m5
  rw [rdSs_cons]
  simp_arith [oLst]
  have v11 : ∀ (y11 : Option D) (y4 y5 y6 y7 y8 y9 y10 y12 y13 : Option D) C (Q' : Kv), Q' (.ref p11) C → cVar 11 [x0, some (.ref s), x2, some (.ref pp), y4, y5, y6, y7, y8, y9, y10, some (.ref p11), y12, y13] C Q' := fun _ _ _ _ _ _ _ _ _ _ _ Q' h => by simp_arith []; exact h
  have e11' := h5.subC _ _ e11
  refine attr_b (fun Q' h => v11 none _ _ _ _ _ _ _ _ _ _ Q' h) e11' (attr_o (fun Q' h => v11 none _ _ _ _ _ _ _ _ _ _ Q' h) e11' (attr_f (fun Q' h => v11 none _ _ _ _ _ _ _ _ _ _ Q' h) e11' ?_))
  intro q1 hq1
  have hPr := hB.pr
  have shL : ShowsL [T.tup (blT a), T.tup (blT b), T.tup (fl.map T.str)] 50200 := by
    have := ((ShowsL.nil.cons hPr.nf.sh).cons hPr.nb.sh).cons hPr.na.sh
    exact ⟨this.can, this.short, Nat.le_trans this.wt (by decide), this.so⟩
  have okL : ∀ t ∈ [T.tup (blT a), T.tup (blT b), T.tup (fl.map T.str)], okT t = true ∧ t.p.depth ≤ 300 := fun t ht => by
    simp only [List.mem_cons, List.not_mem_nil, or_false] at ht
    rcases ht with e | e | e <;> subst e
    · exact ⟨hPr.na.ok, Nat.le_trans hPr.na.dp (by decide)⟩
    · exact ⟨hPr.nb.ok, Nat.le_trans hPr.nb.dp (by decide)⟩
    · exact ⟨hPr.nf.ok, Nat.le_trans hPr.nf.dp (by decide)⟩
  have eL : [(T.tup (blT a)).d, (T.tup (blT b)).d, D.tup (fl.map D.str)] = [T.tup (blT a), T.tup (blT b), T.tup (fl.map T.str)].map T.d := by
    rw [List.map_cons, List.map_cons, List.map_cons, List.map_nil, flags_d]
  have eL2 : [D.tup (bds a), D.tup (bds b), D.tup (fl.map D.str)] = [T.tup (blT a), T.tup (blT b), T.tup (fl.map T.str)].map T.d := by
    rw [List.map_cons, List.map_cons, List.map_cons, List.map_nil, flags_d]; rfl
  rw [eL]
  refine repr_L shL (by decide) okL cup_same fun so => ?_
  intro q2 hq2
  rw [eL2]
  refine repr_L shL (by decide) okL cup_same fun _ => ?_
  have h6 := (h5.sub (sub_new (o := .lst ([T.tup (blT a), T.tup (blT b), T.tup (fl.map T.str)].map T.d)) hq1)).sub (sub_new (o := .lst ([T.tup (blT a), T.tup (blT b), T.tup (fl.map T.str)].map T.d)) hq2)
  generalize cup (cup C5 q1 (.lst ([T.tup (blT a), T.tup (blT b), T.tup (fl.map T.str)].map T.d))) q2 (.lst ([T.tup (blT a), T.tup (blT b), T.tup (fl.map T.str)].map T.d)) = C6 at h6
  generalize (PyData.list (T.pl [T.tup (blT a), T.tup (blT b), T.tup (fl.map T.str)])).shown = z at so
  clear h5 e11' hq1 hq2
  rw [oEqN_strI so so]
  refine ⟨_, rfl, ?_⟩
  rw [decide_eq_true rfl, if_neg (by decide)]
  clear so shL okL eL eL2
  clear z
  rw [rdSs_cons]
  simp_arith []
  refine eqO_pr (n := 197) hPr hPr (h6.subC _ _ e11) (h6.subC _ _ e12) ⟨_, rfl, ?_⟩
  rw [eqPr_refl, if_neg (by decide)]
  refine eqO_pr (n := 197) hPr hPr (h6.subC _ _ e11) (h6.subC _ _ e12) ⟨_, rfl, ?_⟩
  rw [eqPr_refl, if_neg (by decide)]
  simp_arith [cMake, GG_make]
  intro p14 hp14
  refine made_st (n := 170) h6 hPr hp14 fun B4 C7 k4 m7 e14 h7 => ?_
  refine eqO_pr (n := 197) hPr hPr (h7.subC _ _ (k4 _ _ e11)) (h7.subC _ _ e14) ⟨_, rfl, ?_⟩
  rw [eqPr_refl, if_neg (by decide)]
  have h7 := h7.drop k4
  clear h6 e14 hp14 m7 k4
  rw [rdSs_cons]
  simp_arith [GG_call]
  refine word_ok (n := 195) (N := N + 380) (h7.le (by omega)) fun z C8 wz oz h8 => ?_
  have fw := free_word wz
  have hc := hB.c
  have la : (bds a).length ≤ 16 := by rw [bds_len]; omega
  have lb : (bds b).length ≤ 16 := by rw [bds_len]; omega
  generalize hs0 : St1.emit (.str z) = s00 at fw
  have ed : D.tup [D.str (Str.ofString "emit"), D.str z] = s00.t.d := by rw [← hs0]; rfl
  rw [ed]
  rw [rdSs_cons]
  simp_arith [oLst, cMake, GG_make]
  rw [show [s00.t.d] ++ bds a = bds (s00 :: a) from rfl, show [s00.t.d] ++ bds b = bds (s00 :: b) from rfl]
  refine ⟨by omega, fun q1 hq1 => ?_⟩
  refine made_st (n := 170) h8 (hB.putA fw (.here a)) hq1 fun B4 C9 k4 m9 f1 h9 => ?_
  refine ⟨by omega, fun q2 hq2 => ?_⟩
  refine made_st (n := 170) h9 (hB.putB fw (.here b)) hq2 fun B5 C10 k5 m10 f2 h10 => ?_
  replace f1 := k5 _ _ f1
  intro p5 hp5
  obtain ⟨B6, k6, f5, h11⟩ := h10.grow (o := .lst [.ref q1, .ref q2]) hp5
  generalize cup C10 p5 (.lst [.ref q1, .ref q2]) = C11 at h11
  replace f1 := k6 _ _ f1
  replace f2 := k6 _ _ f2
  have e11 := k6 _ _ (k5 _ _ (k4 _ _ e11))
  have e12 := k6 _ _ (k5 _ _ (k4 _ _ e12))
  have sB6 : Sub C0 B6 := ((sB3.trans k4).trans k5).trans k6
  have n5 : C0 p5 = none := My.Sub.no (sB3.trans ((k4.trans k5).trans h10.subC)) hp5
  clear h7 h8 h9 h10 m9 m10 k4 k5 k6 sB3
  have M : Mid C0 B6 C11 s p5 p11 (N + 380) fl a b [.ref q1, .ref q2] := ⟨h11, f5, fun y hy => by
    simp only [List.mem_cons, List.not_mem_nil, or_false] at hy
    rcases hy with e | e <;> subst e
    · exact unl_a hB fw (.here a) f1
    · exact unl_b hB fw (.here b) f2, e11, sB6, n5, by simp⟩
  clear h11 f5 e11 sB6 n5 f1 f2 e12 hq1 hq2 hp5 hp12 hp11
  rw [rdSs_cons]
  simp_arith [GG_call]
  refine ⟨isLst_of (M.st.subC _ _ M.l), ?_⟩
  simp_arith [cMake, GG_make, GG_call]
  refine put_ok (s0 := s00) 7 186 (N + 350) a B6 C11 s _ _ (by omega) (by omega) (M.st.le (by omega)) fun a' C12 hP h12 => ?_
  intro q3 hq3
  refine made_st (n := 170) h12 (hB.putA fw hP) hq3 fun B7 C13 k7 m13 f3 h13 => ?_
  have M1 := M.step k7 h13
  refine ⟨p5, _, _, rfl, rfl, h13.subC _ _ M1.l, by simp; omega, ?_⟩
  have M2 := M1.app (unl_a hB fw hP f3) (by simp)
  generalize cup B7 p5 _ = B8 at M2
  generalize cup C13 p5 _ = C14 at M2
  clear M M1 h12 h13 f3 hq3 m13 k7
  dsimp only
  rw [rdSs_cons]
  simp_arith [GG_call]
  refine ⟨isLst_of (M2.st.subC _ _ M2.l), ?_⟩
  simp_arith [cMake, GG_make, GG_call]
  refine put_ok (s0 := s00) 7 186 (N + 320) b B8 C14 s _ _ (by omega) (by omega) (M2.st.le (by omega)) fun b' C15 hP2 h15 => ?_
  intro q4 hq4
  refine made_st (n := 170) h15 (hB.putB fw hP2) hq4 fun B9 C16 k9 m16 f4 h16 => ?_
  have M3 := M2.step k9 h16
  refine ⟨p5, _, _, rfl, rfl, h16.subC _ _ M3.l, by simp; omega, ?_⟩
  have M4 := M3.app (unl_b hB fw hP2 f4) (by simp)
  generalize cup B9 p5 _ = B10 at M4
  generalize cup C16 p5 _ = C17 at M4
  clear M2 M3 h15 h16 f4 hq4 m16 k9
  dsimp only
  rw [rdSs_cons]
  simp_arith [cLc, iSeq, oLst]
  intro q5 hq5
  refine lcL_if D.str D.str (fun z => !(fl.any fun x => decide (x = z))) cup_same abcd (fun z _ => ⟨_, rfl, fun Q' hQ => ?_, fun Q' hQ => ?_⟩) (by show 4 ≤ _; omega) ?_
  · simp_arith! [wipe3]
    exact in_strT ⟨_, rfl, hQ⟩
  · simp_arith! [wipe3]
    exact hQ
  obtain ⟨z5, r5, ez5, nz5, mz5⟩ := abcd_left hB.fn
  rw [ez5]
  intro q6 hq6
  have h18 := (M4.st.sub (sub_new (o := .lst ([D.str (Str.ofString "a"), D.str (Str.ofString "b"), D.str (Str.ofString "c"), D.str (Str.ofString "d")])) hq5)).sub (sub_new (o := .lst ((z5 :: r5).map D.str)) hq6)
  have e6 : cup (cup C17 q5 (.lst ([D.str (Str.ofString "a"), D.str (Str.ofString "b"), D.str (Str.ofString "c"), D.str (Str.ofString "d")]))) q6 (.lst ((z5 :: r5).map D.str)) q6 = some (.lst ((z5 :: r5).map D.str)) := cup_same
  generalize hC18 : cup (cup C17 q5 (.lst ([D.str (Str.ofString "a"), D.str (Str.ofString "b"), D.str (Str.ofString "c"), D.str (Str.ofString "d")]))) q6 (.lst ((z5 :: r5).map D.str)) = C18 at h18 e6
  rw [rdSs_cons]
  simp_arith [oLst, cMake, GG_make]
  refine oIxA_lst e6 atI_zero ⟨by simp; have := hB.fn; omega, fun q7 hq7 => ?_⟩
  rw [show fl.map D.str ++ [D.str z5] = (fl ++ [z5]).map D.str by simp]
  obtain ⟨ffl, nfl⟩ := fresh_fl hB.f (abcd_good _ mz5) nz5
  have hfl5 : (fl ++ [z5]).length ≤ 5 := by have := hB.fn; simp; omega
  have hsub5 : ∀ z ∈ fl, z ∈ fl ++ [z5] := fun z hz => List.mem_append_left _ hz
  refine made_st (n := 170) h18 (hB.flags ffl hfl5 hsub5) hq7 fun B11 C19 k11 m19 f7 h19 => ?_
  have M5 := M4.step k11 h19
  clear M4 h18 e6 hC18 m19
  intro q8 hq8
  refine add_lists (cup_old hq8 (M5.st.subC _ _ M5.l)) cup_same (by simp; omega) fun p6 hp6 => ?_
  obtain ⟨B12, M6⟩ := M5.lists (ds2 := [.ref q7, .non, .int 0, .str (Str.ofString "x1")]) (fun y hy => by
    simp only [List.mem_cons, List.not_mem_nil, or_false] at hy
    rcases hy with e | e | e | e <;> subst e
    · exact unl_f hB ffl hfl5 hsub5 nfl f7
    · exact .inl (.inl rfl)
    · exact .inl (.inr (.inl ⟨_, rfl⟩))
    · exact .inl (.inr (.inr (.inl ⟨_, rfl⟩)))) (by simp) hq8 hp6
  generalize cup (cup C19 q8 _) p6 _ = C20 at M6
  rw [rdSs_cons]
  simp_arith [oLst]
  intro q9 hq9
  refine add_lists (cup_old hq9 (M6.st.subC _ _ M6.l)) cup_same (by simp; omega) fun p7 hp7 => ?_
  obtain ⟨B13, M7⟩ := M6.lists (ds2 := [.tup (bds a), .tup (fl.map D.str), .tup [.tup (bds a), .tup (bds b), .tup (fl.map D.str)]]) (fun y hy => by
    simp only [List.mem_cons, List.not_mem_nil, or_false] at hy
    rcases hy with e | e | e <;> subst e <;> exact .inl (.inr (.inr (.inr ⟨_, rfl⟩)))) (by simp) hq9 hp7
  generalize cup (cup C20 q9 _) p7 _ = C21 at M7
  clear M5 M6 hq9 hp7 hq8 hp6 h19 f7 k11
  rw [rdSs_cons]
  simp_arith []
  have main : ∀ (B C : CH) (ds : List D), Mid C0 B C s p7 p11 (N + 320) fl a b ds → rdSs (GG 199) ex (lawO.drop 13) Dd [x0, some (.ref s), x2, some (.ref pp), some s00.t.d, some (.ref p7), some (.ref q6), x7, some (.tup (bds a)), some (.tup (bds b)), some (.tup (fl.map D.str)), some (.ref p11), some (.ref p12), x13] C := fun B C ds M => tail_ok hB fw M hD
  simp only [lawO, b_law, List.drop] at main
  by_cases hl : 1 < fl.length
  · rw [if_pos (decide_eq_true (by simp; omega))]
    rw [rdSs_cons]
    simp_arith []
    refine ⟨isLst_of (M7.st.subC _ _ M7.l), ?_⟩
    simp_arith [cMake, GG_make]
    have ec : cutD (fl.map D.str) (some 1) none ++ cutD (fl.map D.str) none (some 1) = (fl.drop 1 ++ fl.take 1).map D.str := by
      have c1 := cut_lo (ds := fl.map D.str) (k := 1) (by simp; omega)
      have c2 := cut_hi (ds := fl.map D.str) (k := 1) (by simp; omega)
      rw [show ((1 : Nat) : Int) = 1 from rfl] at c1 c2
      rw [c1, c2]; simp
    obtain ⟨ffl, nfl, hsub, hlen⟩ := rot_fl hB.f hl
    have hlen5 : (fl.drop 1 ++ fl.take 1).length ≤ 5 := by have := hB.fn; omega
    refine ⟨?_, fun q10 hq10 => ?_⟩
    · have := congrArg List.length ec
      rw [List.length_append] at this
      rw [this, List.length_map]; omega
    rw [ec]
    refine made_st (n := 170) M7.st (hB.flags ffl hlen5 hsub) hq10 fun B14 C22 k14 m22 f10 h22 => ?_
    have M8 := M7.step k14 h22
    refine ⟨p7, _, _, rfl, rfl, h22.subC _ _ M8.l, by simp; omega, ?_⟩
    have M9 := M8.app (unl_f hB ffl hlen5 hsub nfl f10) (by simp)
    exact main _ _ _ M9
  · rw [if_neg (by simp; omega)]
    exact main _ _ _ M7

/-! k05: the law -/
theorem turns {N : Nat} {ex : Kxs} {Dd : EndsC} {C0 : CH} {s : Addr} {x0 : Option D} (hD : ∀ C' x2 x3 x4 x5 x6 x7 x8 x9 x10 x11 x12 x13, St C0 C' s N → Dd.nx [x0, some (.ref s), x2, x3, x4, x5, x6, x7, x8, x9, x10, x11, x12, x13] C') :
    ∀ (js : List D) (C : CH) (x2 x3 x4 x5 x6 x7 x8 x9 x10 x11 x12 x13 : Option D), St C0 C s (N + 1000 * js.length) → forL (hT (.nm 2)) (rdSs (GG 199) ex lawO) (fun _ => True) Dd js [x0, some (.ref s), x2, x3, x4, x5, x6, x7, x8, x9, x10, x11, x12, x13] C
  | [], C, x2, x3, x4, x5, x6, x7, x8, x9, x10, x11, x12, x13, h => ⟨trivial, hD C _ _ _ _ _ _ _ _ _ _ _ _ (h.le (by simp))⟩
  | j :: js, C, x2, x3, x4, x5, x6, x7, x8, x9, x10, x11, x12, x13, h => by
    simp only [List.length_cons] at h
    refine ⟨trivial, _, rfl, ?_⟩
    exact turn_ok (N := N + 1000 * js.length) (h.le (by omega)) fun C' x3 x4 x5 x6 x7 x8 x9 x10 x11 x12 x13 h' => turns hD js C' _ _ _ _ _ _ _ _ _ _ _ _ h'
theorem law_ok : LawTrue prog kit 200 i_law := by
  intro ns hl hb
  show W (199 + 1) i_law _ _ _ _
  rw [W_law]
  unfold b_law
  rw [rdSs_cons]
  simp_arith [GG_call]
  refine begin_ok (n := 198) hl fun s C1 h1 => ?_
  generalize hC0 : (fun _ => none : CH) = C0 at h1
  rw [rdSs_cons]
  simp_arith [sFor, iRg1]
  refine ⟨_, _, rfl, ?_⟩
  have hm : ∃ m : Nat, m ≤ 6 ∧ (if (6 : Int) < ((List.map D.int ns).length : Nat) then (6 : Int) else ((List.map D.int ns).length : Nat)) = (m : Int) := by
    by_cases h6 : (6 : Int) < ((List.map D.int ns).length : Nat)
    · exact ⟨6, Nat.le_refl _, by rw [if_pos h6]; rfl⟩
    · exact ⟨(List.map D.int ns).length, by omega, by rw [if_neg h6]⟩
  obtain ⟨m, hm5, em⟩ := hm
  dsimp only
  rw [em]
  refine ⟨_, rfl, by omega, by omega, ?_⟩
  refine turns (N := 10) (C0 := C0) (fun C' x2 x3 x4 x5 x6 x7 x8 x9 x10 x11 x12 x13 h' => ?_) _ C1 _ _ _ _ _ _ _ _ _ _ _ _ (h1.le (by simp [rngD]; omega))
  dsimp only
  rw [rdSs_cons]
  simp_arith []
  exact ⟨C', Sub.refl⟩

end My
namespace My
open PySem L3
open L2 (inClass defArgs defBody defScope)
set_option maxHeartbeats 0 in
theorem all_mk {l : PySem.W.OpenLaw} {w : World} {K : PySem.W.Frag} {h : Heap} {mg : Str → Option Value} {fa C0 C1 C2 C3 f0 f1 f2 f3 f4 f5 f6 f7 f8 f9 f10 f11 f12 f13 f14 f15 f16 f17 f18 f19 f20 f21 f22 f23 f24 f25 f26 f27 f28 f29 f30 : Addr} (X : K.In h) (G : h.Ns mainGlobals mg) (hfa : mg "law" = some (.ref fa))
    {od0 an0 od1 an1 od2 an2 od3 an3 od4 an4 od5 an5 od6 an6 od7 an7 od8 an8 od9 an9 od10 an10 od11 an11 od12 an12 od13 an13 od14 an14 od15 an15 od16 an16 od17 an17 od18 an18 od19 an19 od20 an20 od21 an21 od22 an22 od23 an23 od24 an24 od25 an25 od26 an26 od27 an27 od28 an28 od29 an29 od30 an30 : Option Addr} {sl0 sl1 sl2 sl3 sl4 sl5 sl6 sl7 sl8 sl9 sl10 sl11 sl12 sl13 sl14 sl15 sl16 sl17 sl18 sl19 sl20 sl21 sl22 sl23 sl24 sl25 sl26 sl27 sl28 sl29 sl30 : Array (Option Value)} {oc0 kV0 dc0 pm0 cd0 ct0 oc1 kV1 dc1 pm1 cd1 ct1 oc2 kV2 dc2 pm2 cd2 ct2 oc3 kV3 dc3 pm3 cd3 ct3 oc4 kV4 dc4 pm4 cd4 ct4 oc5 kV5 dc5 pm5 cd5 ct5 oc6 kV6 dc6 pm6 cd6 ct6 oc7 kV7 dc7 pm7 cd7 ct7 oc8 kV8 dc8 pm8 cd8 ct8 oc9 kV9 dc9 pm9 cd9 ct9 oc10 kV10 dc10 pm10 cd10 ct10 oc11 kV11 dc11 pm11 cd11 ct11 oc12 kV12 dc12 pm12 cd12 ct12 oc13 kV13 dc13 pm13 cd13 ct13 oc14 kV14 dc14 pm14 cd14 ct14 oc15 kV15 dc15 pm15 cd15 ct15 oc16 kV16 dc16 pm16 cd16 ct16 oc17 kV17 dc17 pm17 cd17 ct17 oc18 kV18 dc18 pm18 cd18 ct18 oc19 kV19 dc19 pm19 cd19 ct19 oc20 kV20 dc20 pm20 cd20 ct20 oc21 kV21 dc21 pm21 cd21 ct21 oc22 kV22 dc22 pm22 cd22 ct22 oc23 kV23 dc23 pm23 cd23 ct23 oc24 kV24 dc24 pm24 cd24 ct24 oc25 kV25 dc25 pm25 cd25 ct25 oc26 kV26 dc26 pm26 cd26 ct26 oc27 kV27 dc27 pm27 cd27 ct27 oc28 kV28 dc28 pm28 cd28 ct28 oc29 kV29 dc29 pm29 cd29 ct29 oc30 kV30 dc30 pm30 cd30 ct30 : Value} {tk0 tk1 tk2 tk3 tk4 tk5 tk6 tk7 tk8 : Tok} {T14 : Addr} {tc14 : Value} {td14 : Option Addr} {tn14 : Nat} {ts14 : Array (Option Value)} {te14_0 : Addr} {teo14_0 : Option Addr} {ten14_0 : Nat} {tes14_0 : Array (Option Value)} {te14_1 : Addr} {teo14_1 : Option Addr} {ten14_1 : Nat} {tes14_1 : Array (Option Value)} {gp0 : Addr} {ge0 : Array DictEntry} {gn0 : Nat} {gt0_0 : Tok} {gt0_1 : Tok} {gt0_2 : Tok} {gt0_3 : Tok} {gt0_4 : Tok} {gt0_5 : Tok} {gt0_6 : Tok} {gt0_7 : Tok}
    (e0 : PySem.W.nsIn K mainGlobals "LoopError" = some (some (.ref C0)))
    (e1 : PySem.W.nsIn K mainGlobals "NoProgram" = some (some (.ref C1)))
    (e2 : PySem.W.nsIn K mainGlobals "Checker" = some (some (.ref C2)))
    (e3 : PySem.W.nsIn K mainGlobals "Program" = some (some (.ref C3)))
    (a0 : PySem.W.nsIn K mainGlobals "is_number" = some (some (.ref f0)))
    (l0 : K.lookup f0 = some ⟨oc0, od0, .func (PySem.W.fnOf "is_number" "is_number" (defArgs s0) (defBody s0) (defScope s0) .none kV0 dc0 pm0 an0 cd0 ct0), sl0⟩)
    (c0 : PySem.W.codeIn K cd0 "is_number" = true)
    (k0 : PySem.W.keepIn K (.ref f0) = true)
    (a1 : PySem.W.nsIn K mainGlobals "is_name" = some (some (.ref f1)))
    (l1 : K.lookup f1 = some ⟨oc1, od1, .func (PySem.W.fnOf "is_name" "is_name" (defArgs s1) (defBody s1) (defScope s1) .none kV1 dc1 pm1 an1 cd1 ct1), sl1⟩)
    (c1 : PySem.W.codeIn K cd1 "is_name" = true)
    (k1 : PySem.W.keepIn K (.ref f1) = true)
    (a2 : PySem.W.nsIn K mainGlobals "is_word" = some (some (.ref f2)))
    (l2 : K.lookup f2 = some ⟨oc2, od2, .func (PySem.W.fnOf "is_word" "is_word" (defArgs s2) (defBody s2) (defScope s2) .none kV2 dc2 pm2 an2 cd2 ct2), sl2⟩)
    (c2 : PySem.W.codeIn K cd2 "is_word" = true)
    (k2 : PySem.W.keepIn K (.ref f2) = true)
    (a3 : PySem.W.nsIn K mainGlobals "measured" = some (some (.ref f3)))
    (l3 : K.lookup f3 = some ⟨oc3, od3, .func (PySem.W.fnOf "measured" "measured" (defArgs s3) (defBody s3) (defScope s3) .none kV3 dc3 pm3 an3 cd3 ct3), sl3⟩)
    (c3 : PySem.W.codeIn K cd3 "measured" = true)
    (k3 : PySem.W.keepIn K (.ref f3) = true)
    (a4 : PySem.W.nsIn K mainGlobals "is_value" = some (some (.ref f4)))
    (l4 : K.lookup f4 = some ⟨oc4, od4, .func (PySem.W.fnOf "is_value" "is_value" (defArgs s4) (defBody s4) (defScope s4) .none kV4 dc4 pm4 an4 cd4 ct4), sl4⟩)
    (c4 : PySem.W.codeIn K cd4 "is_value" = true)
    (k4 : PySem.W.keepIn K (.ref f4) = true)
    (a5 : PySem.W.nsIn K mainGlobals "is_term" = some (some (.ref f5)))
    (l5 : K.lookup f5 = some ⟨oc5, od5, .func (PySem.W.fnOf "is_term" "is_term" (defArgs s5) (defBody s5) (defScope s5) .none kV5 dc5 pm5 an5 cd5 ct5), sl5⟩)
    (c5 : PySem.W.codeIn K cd5 "is_term" = true)
    (k5 : PySem.W.keepIn K (.ref f5) = true)
    (a6 : PySem.W.nsIn K mainGlobals "may_use" = some (some (.ref f6)))
    (l6 : K.lookup f6 = some ⟨oc6, od6, .func (PySem.W.fnOf "may_use" "may_use" (defArgs s6) (defBody s6) (defScope s6) .none kV6 dc6 pm6 an6 cd6 ct6), sl6⟩)
    (c6 : PySem.W.codeIn K cd6 "may_use" = true)
    (k6 : PySem.W.keepIn K (.ref f6) = true)
    (a7 : PySem.W.nsIn K mainGlobals "may_ask" = some (some (.ref f7)))
    (l7 : K.lookup f7 = some ⟨oc7, od7, .func (PySem.W.fnOf "may_ask" "may_ask" (defArgs s7) (defBody s7) (defScope s7) .none kV7 dc7 pm7 an7 cd7 ct7), sl7⟩)
    (c7 : PySem.W.codeIn K cd7 "may_ask" = true)
    (k7 : PySem.W.keepIn K (.ref f7) = true)
    (a8 : PySem.W.nsIn K mainGlobals "are_flags" = some (some (.ref f8)))
    (l8 : K.lookup f8 = some ⟨oc8, od8, .func (PySem.W.fnOf "are_flags" "are_flags" (defArgs s8) (defBody s8) (defScope s8) .none kV8 dc8 pm8 an8 cd8 ct8), sl8⟩)
    (c8 : PySem.W.codeIn K cd8 "are_flags" = true)
    (k8 : PySem.W.keepIn K (.ref f8) = true)
    (a9 : PySem.W.findIn K (.ref C2) "__init__" = some (some (.ref f9)))
    (i9 : PySem.W.isFn K (.ref f9) = true)
    (l9 : K.lookup f9 = some ⟨oc9, od9, .func (PySem.W.fnOf "__init__" "Checker.__init__" (defArgs s9) (defBody s9) (defScope s9) .none kV9 dc9 pm9 an9 cd9 ct9), sl9⟩)
    (c9 : PySem.W.codeIn K cd9 "Checker.__init__" = true)
    (k9 : PySem.W.keepIn K (.ref f9) = true)
    (a10 : PySem.W.findIn K (.ref C2) "is_flag" = some (some (.ref f10)))
    (i10 : PySem.W.isFn K (.ref f10) = true)
    (l10 : K.lookup f10 = some ⟨oc10, od10, .func (PySem.W.fnOf "is_flag" "Checker.is_flag" (defArgs s10) (defBody s10) (defScope s10) .none kV10 dc10 pm10 an10 cd10 ct10), sl10⟩)
    (c10 : PySem.W.codeIn K cd10 "Checker.is_flag" = true)
    (k10 : PySem.W.keepIn K (.ref f10) = true)
    (a11 : PySem.W.findIn K (.ref C2) "is_block" = some (some (.ref f11)))
    (i11 : PySem.W.isFn K (.ref f11) = true)
    (l11 : K.lookup f11 = some ⟨oc11, od11, .func (PySem.W.fnOf "is_block" "Checker.is_block" (defArgs s11) (defBody s11) (defScope s11) .none kV11 dc11 pm11 an11 cd11 ct11), sl11⟩)
    (c11 : PySem.W.codeIn K cd11 "Checker.is_block" = true)
    (k11 : PySem.W.keepIn K (.ref f11) = true)
    (a12 : PySem.W.findIn K (.ref C2) "is_statement" = some (some (.ref f12)))
    (i12 : PySem.W.isFn K (.ref f12) = true)
    (l12 : K.lookup f12 = some ⟨oc12, od12, .func (PySem.W.fnOf "is_statement" "Checker.is_statement" (defArgs s12) (defBody s12) (defScope s12) .none kV12 dc12 pm12 an12 cd12 ct12), sl12⟩)
    (c12 : PySem.W.codeIn K cd12 "Checker.is_statement" = true)
    (k12 : PySem.W.keepIn K (.ref f12) = true)
    (a13 : PySem.W.findIn K (.ref C2) "is_question" = some (some (.ref f13)))
    (i13 : PySem.W.isFn K (.ref f13) = true)
    (l13 : K.lookup f13 = some ⟨oc13, od13, .func (PySem.W.fnOf "is_question" "Checker.is_question" (defArgs s13) (defBody s13) (defScope s13) .none kV13 dc13 pm13 an13 cd13 ct13), sl13⟩)
    (c13 : PySem.W.codeIn K cd13 "Checker.is_question" = true)
    (k13 : PySem.W.keepIn K (.ref f13) = true)
    (a14 : PySem.W.findIn K (.ref C3) "__init__" = some (some (.ref f14)))
    (i14 : PySem.W.isFn K (.ref f14) = true)
    (l14 : K.lookup f14 = some ⟨oc14, od14, .func (PySem.W.fnOf "__init__" "Program.__init__" (defArgs s14) (defBody s14) (defScope s14) (.ref T14) kV14 dc14 pm14 an14 cd14 ct14), sl14⟩)
    (t14 : K.lookup T14 = some ⟨tc14, td14, .seq #[(.ref te14_0), (.ref te14_1)] tn14, ts14⟩)
    (hte14_0 : K.lookup te14_0 = some ⟨.type "tuple", teo14_0, .seq #[] ten14_0, tes14_0⟩)
    (hte14_1 : K.lookup te14_1 = some ⟨.type "tuple", teo14_1, .seq #[] ten14_1, tes14_1⟩)
    (c14 : PySem.W.codeIn K cd14 "Program.__init__" = true)
    (k14 : PySem.W.keepIn K (.ref f14) = true)
    (a15 : PySem.W.findIn K (.ref C3) "__eq__" = some (some (.ref f15)))
    (i15 : PySem.W.isFn K (.ref f15) = true)
    (l15 : K.lookup f15 = some ⟨oc15, od15, .func (PySem.W.fnOf "__eq__" "Program.__eq__" (defArgs s15) (defBody s15) (defScope s15) .none kV15 dc15 pm15 an15 cd15 ct15), sl15⟩)
    (c15 : PySem.W.codeIn K cd15 "Program.__eq__" = true)
    (k15 : PySem.W.keepIn K (.ref f15) = true)
    (a16 : PySem.W.nsIn K mainGlobals "_law_begin" = some (some (.ref f16)))
    (l16 : K.lookup f16 = some ⟨oc16, od16, .func (PySem.W.fnOf "_law_begin" "_law_begin" (defArgs s16) (defBody s16) (defScope s16) .none kV16 dc16 pm16 an16 cd16 ct16), sl16⟩)
    (c16 : PySem.W.codeIn K cd16 "_law_begin" = true)
    (k16 : PySem.W.keepIn K (.ref f16) = true)
    (a17 : PySem.W.nsIn K mainGlobals "_law_mixed" = some (some (.ref f17)))
    (l17 : K.lookup f17 = some ⟨oc17, od17, .func (PySem.W.fnOf "_law_mixed" "_law_mixed" (defArgs s17) (defBody s17) (defScope s17) .none kV17 dc17 pm17 an17 cd17 ct17), sl17⟩)
    (c17 : PySem.W.codeIn K cd17 "_law_mixed" = true)
    (k17 : PySem.W.keepIn K (.ref f17) = true)
    (a18 : PySem.W.nsIn K mainGlobals "_law_take" = some (some (.ref f18)))
    (l18 : K.lookup f18 = some ⟨oc18, od18, .func (PySem.W.fnOf "_law_take" "_law_take" (defArgs s18) (defBody s18) (defScope s18) .none kV18 dc18 pm18 an18 cd18 ct18), sl18⟩)
    (c18 : PySem.W.codeIn K cd18 "_law_take" = true)
    (k18 : PySem.W.keepIn K (.ref f18) = true)
    (a19 : PySem.W.nsIn K mainGlobals "_law_pick" = some (some (.ref f19)))
    (l19 : K.lookup f19 = some ⟨oc19, od19, .func (PySem.W.fnOf "_law_pick" "_law_pick" (defArgs s19) (defBody s19) (defScope s19) .none kV19 dc19 pm19 an19 cd19 ct19), sl19⟩)
    (c19 : PySem.W.codeIn K cd19 "_law_pick" = true)
    (k19 : PySem.W.keepIn K (.ref f19) = true)
    (a20 : PySem.W.nsIn K mainGlobals "_law_name" = some (some (.ref f20)))
    (l20 : K.lookup f20 = some ⟨oc20, od20, .func (PySem.W.fnOf "_law_name" "_law_name" (defArgs s20) (defBody s20) (defScope s20) .none kV20 dc20 pm20 an20 cd20 ct20), sl20⟩)
    (c20 : PySem.W.codeIn K cd20 "_law_name" = true)
    (k20 : PySem.W.keepIn K (.ref f20) = true)
    (a21 : PySem.W.nsIn K mainGlobals "_law_plan" = some (some (.ref f21)))
    (l21 : K.lookup f21 = some ⟨oc21, od21, .func (PySem.W.fnOf "_law_plan" "_law_plan" (defArgs s21) (defBody s21) (defScope s21) .none kV21 dc21 pm21 an21 cd21 ct21), sl21⟩)
    (c21 : PySem.W.codeIn K cd21 "_law_plan" = true)
    (k21 : PySem.W.keepIn K (.ref f21) = true)
    (a22 : PySem.W.nsIn K mainGlobals "_law_word" = some (some (.ref f22)))
    (l22 : K.lookup f22 = some ⟨oc22, od22, .func (PySem.W.fnOf "_law_word" "_law_word" (defArgs s22) (defBody s22) (defScope s22) .none kV22 dc22 pm22 an22 cd22 ct22), sl22⟩)
    (c22 : PySem.W.codeIn K cd22 "_law_word" = true)
    (k22 : PySem.W.keepIn K (.ref f22) = true)
    (a23 : PySem.W.nsIn K mainGlobals "_law_height" = some (some (.ref f23)))
    (l23 : K.lookup f23 = some ⟨oc23, od23, .func (PySem.W.fnOf "_law_height" "_law_height" (defArgs s23) (defBody s23) (defScope s23) .none kV23 dc23 pm23 an23 cd23 ct23), sl23⟩)
    (c23 : PySem.W.codeIn K cd23 "_law_height" = true)
    (k23 : PySem.W.keepIn K (.ref f23) = true)
    (a24 : PySem.W.nsIn K mainGlobals "_law_value" = some (some (.ref f24)))
    (l24 : K.lookup f24 = some ⟨oc24, od24, .func (PySem.W.fnOf "_law_value" "_law_value" (defArgs s24) (defBody s24) (defScope s24) .none kV24 dc24 pm24 an24 cd24 ct24), sl24⟩)
    (c24 : PySem.W.codeIn K cd24 "_law_value" = true)
    (k24 : PySem.W.keepIn K (.ref f24) = true)
    (a25 : PySem.W.nsIn K mainGlobals "_law_term" = some (some (.ref f25)))
    (l25 : K.lookup f25 = some ⟨oc25, od25, .func (PySem.W.fnOf "_law_term" "_law_term" (defArgs s25) (defBody s25) (defScope s25) .none kV25 dc25 pm25 an25 cd25 ct25), sl25⟩)
    (c25 : PySem.W.codeIn K cd25 "_law_term" = true)
    (k25 : PySem.W.keepIn K (.ref f25) = true)
    (a26 : PySem.W.nsIn K mainGlobals "_law_block" = some (some (.ref f26)))
    (l26 : K.lookup f26 = some ⟨oc26, od26, .func (PySem.W.fnOf "_law_block" "_law_block" (defArgs s26) (defBody s26) (defScope s26) .none kV26 dc26 pm26 an26 cd26 ct26), sl26⟩)
    (c26 : PySem.W.codeIn K cd26 "_law_block" = true)
    (k26 : PySem.W.keepIn K (.ref f26) = true)
    (a27 : PySem.W.nsIn K mainGlobals "_law_statement" = some (some (.ref f27)))
    (l27 : K.lookup f27 = some ⟨oc27, od27, .func (PySem.W.fnOf "_law_statement" "_law_statement" (defArgs s27) (defBody s27) (defScope s27) .none kV27 dc27 pm27 an27 cd27 ct27), sl27⟩)
    (c27 : PySem.W.codeIn K cd27 "_law_statement" = true)
    (k27 : PySem.W.keepIn K (.ref f27) = true)
    (a28 : PySem.W.nsIn K mainGlobals "_law_put_in" = some (some (.ref f28)))
    (l28 : K.lookup f28 = some ⟨oc28, od28, .func (PySem.W.fnOf "_law_put_in" "_law_put_in" (defArgs s28) (defBody s28) (defScope s28) .none kV28 dc28 pm28 an28 cd28 ct28), sl28⟩)
    (c28 : PySem.W.codeIn K cd28 "_law_put_in" = true)
    (k28 : PySem.W.keepIn K (.ref f28) = true)
    (a29 : PySem.W.nsIn K mainGlobals "_law_unlike" = some (some (.ref f29)))
    (l29 : K.lookup f29 = some ⟨oc29, od29, .func (PySem.W.fnOf "_law_unlike" "_law_unlike" (defArgs s29) (defBody s29) (defScope s29) .none kV29 dc29 pm29 an29 cd29 ct29), sl29⟩)
    (c29 : PySem.W.codeIn K cd29 "_law_unlike" = true)
    (k29 : PySem.W.keepIn K (.ref f29) = true)
    (a30 : PySem.W.nsIn K mainGlobals "law" = some (some (.ref f30)))
    (l30 : K.lookup f30 = some ⟨oc30, od30, .func (PySem.W.fnOf "law" "law" (defArgs s30) (defBody s30) (defScope s30) .none kV30 dc30 pm30 an30 cd30 ct30), sl30⟩)
    (c30 : PySem.W.codeIn K cd30 "law" = true)
    (k30 : PySem.W.keepIn K (.ref f30) = true)
    (gb0 : PySem.W.nsIn K mainGlobals "CAPITALS" = some (some (.str "ABCDEFGHIJKLMNOPQRSTUVWXYZ" tk0)))
    (gb1 : PySem.W.nsIn K mainGlobals "LETTERS" = some (some (.str "abcdefghijklmnopqrstuvwxyz" tk1)))
    (gb2 : PySem.W.nsIn K mainGlobals "MOST_DEEP" = some (some (.int 40 tk2)))
    (gb3 : PySem.W.nsIn K mainGlobals "MOST_FLAGS" = some (some (.int 40 tk3)))
    (gb4 : PySem.W.nsIn K mainGlobals "MOST_HEIGHT" = some (some (.int 4 tk4)))
    (gb5 : PySem.W.nsIn K mainGlobals "MOST_LEVEL" = some (some (.int 3 tk5)))
    (gb6 : PySem.W.nsIn K mainGlobals "MOST_SIGNS" = some (some (.int 8 tk6)))
    (gb7 : PySem.W.nsIn K mainGlobals "MOST_STATEMENTS" = some (some (.int 400 tk7)))
    (gb8 : PySem.W.nsIn K mainGlobals "SIGNS" = some (some (.str "abcdefghijklmnopqrstuvwxyz0123456789" tk8)))
    (z0 : PySem.W.nsIn K mainGlobals "all" = some none)
    (z1 : PySem.W.nsIn K mainGlobals "bool" = some none)
    (z2 : PySem.W.nsIn K mainGlobals "enumerate" = some none)
    (z3 : PySem.W.nsIn K mainGlobals "int" = some none)
    (z4 : PySem.W.nsIn K mainGlobals "isinstance" = some none)
    (z5 : PySem.W.nsIn K mainGlobals "len" = some none)
    (z6 : PySem.W.nsIn K mainGlobals "list" = some none)
    (z7 : PySem.W.nsIn K mainGlobals "max" = some none)
    (z8 : PySem.W.nsIn K mainGlobals "min" = some none)
    (z9 : PySem.W.nsIn K mainGlobals "range" = some none)
    (z10 : PySem.W.nsIn K mainGlobals "repr" = some none)
    (z11 : PySem.W.nsIn K mainGlobals "set" = some none)
    (z12 : PySem.W.nsIn K mainGlobals "str" = some none)
    (z13 : PySem.W.nsIn K mainGlobals "tuple" = some none)
    (xa1 : PySem.W.excIn K C1 [.type "ValueError", .type "Exception", .type "BaseException", .type "object"] "ValueError.__new__" = true)
    (xb1 : PySem.W.keepIn K (.ref C1) = true)
    (xc1 : PySem.W.subIn K (.ref C1) (.type "BaseException") = some true)
    (xd1 : PySem.W.typeIn K (.ref C1) = some (.type "type"))
    (cg2 : PySem.W.plainGet K C2 Str.empty = true)
    (cD2 : PySem.W.hasDictIn K C2 = true)
    (co2 : PySem.W.plainOver K C2 = true)
    (cs2 : PySem.W.findIn K (.ref C2) "__setattr__" = some (some (.builtin "object.__setattr__")))
    (cg3 : PySem.W.plainGet K C3 Str.empty = true)
    (cD3 : PySem.W.hasDictIn K C3 = true)
    (co3 : PySem.W.plainOver K C3 = true)
    (cs3 : PySem.W.findIn K (.ref C3) "__setattr__" = some (some (.builtin "object.__setattr__")))
    (na0 : PySem.W.findIn K (.ref C2) "flags" = some none)
    (na1 : PySem.W.findIn K (.ref C2) "many" = some none)
    (na2 : PySem.W.findIn K (.ref C3) "body" = some none)
    (na3 : PySem.W.findIn K (.ref C3) "flags" = some none)
    (na4 : PySem.W.findIn K (.ref C3) "other" = some none)
    (mk2 : PySem.W.makesIn K C2 = true)
    (kc2 : PySem.W.keepIn K (.ref C2) = true)
    (mk3 : PySem.W.makesIn K C3 = true)
    (kc3 : PySem.W.keepIn K (.ref C3) = true)
    (kh3 : PySem.W.findIn K (.ref C3) "__class__" = some (some (.builtin "object.__class__")))
    (kn3 : PySem.W.specialIn K (.builtin "object.__class__") "__get__" = some (some (.builtin "getset_descriptor.__get__")))
    (kt3 : PySem.W.takesIn K (.builtin "object.__class__") = some true)
    (km3 : PySem.W.mroIn K C3 (.type "object") = some true)
    (ki0 : PySem.W.kitOne K (.type "NoneType") (.ref C3) = some false)
    (ki1 : PySem.W.kitOne K (.type "bool") (.ref C3) = some false)
    (ki2 : PySem.W.kitOne K (.type "int") (.ref C3) = some false)
    (ki3 : PySem.W.kitOne K (.type "str") (.ref C3) = some false)
    (ki4 : PySem.W.kitOne K (.type "tuple") (.ref C3) = some false)
    (ki5 : PySem.W.kitOne K (.type "list") (.ref C3) = some false)
    (ki6 : PySem.W.kitOne K (.type "dict") (.ref C3) = some false)
    (ki7 : PySem.W.kitOne K (.ref C3) (.ref C3) = some true)
    (ki8 : PySem.W.kitOne K (.ref C3) (.type "bool") = some false)
    (ki9 : PySem.W.kitOne K (.ref C3) (.type "int") = some false)
    (ki10 : PySem.W.kitOne K (.ref C3) (.type "str") = some false)
    (ki11 : PySem.W.kitOne K (.ref C3) (.type "tuple") = some false)
    (ki12 : PySem.W.kitOne K (.ref C3) (.type "list") = some false)
    (on3 : PySem.W.findIn K (.ref C3) "__ne__" = some (some (.builtin "object.__ne__")))
    (oo3 : PySem.W.mroIn K C3 (.type "object") = some true)
    (ox3_0 : PySem.W.mroIn K C3 (.type "NoneType") = some false)
    (ox3_1 : PySem.W.mroIn K C3 (.type "int") = some false)
    (ox3_2 : PySem.W.mroIn K C3 (.type "str") = some false)
    (ox3_3 : PySem.W.mroIn K C3 (.type "tuple") = some false)
    (gda0 : PySem.W.nsIn K mainGlobals "LENGTHS" = some (some (.ref gp0)))
    (gdl0 : K.lookup gp0 = some ⟨.type "dict", none, .dict ge0 gn0, #[]⟩)
    (gdk0_8 : PySem.W.KeysLit w.params ge0.toList)
    (gds0 : (gp0 == sysModules) = false)
    (gdv0_0 : PySem.W.nsIn K gp0 "call" = some (some (.int 2 gt0_0)))
    (gdv0_1 : PySem.W.nsIn K gp0 "emit" = some (some (.int 2 gt0_1)))
    (gdv0_2 : PySem.W.nsIn K gp0 "if" = some (some (.int 4 gt0_2)))
    (gdv0_3 : PySem.W.nsIn K gp0 "for" = some (some (.int 4 gt0_3)))
    (gdv0_4 : PySem.W.nsIn K gp0 "break" = some (some (.int 1 gt0_4)))
    (gdv0_5 : PySem.W.nsIn K gp0 "continue" = some (some (.int 1 gt0_5)))
    (gdv0_6 : PySem.W.nsIn K gp0 "set" = some (some (.int 2 gt0_6)))
    (gdv0_7 : PySem.W.nsIn K gp0 "clear" = some (some (.int 2 gt0_7)))
    (S : LawTrue prog kit 200 30) : ∃ fd : FuncData, (∀ (s : Shared) (v : Value), BindsTo s fd ⟨[v], []⟩ [("_law_script", v)]) ∧ ∀ base : Heap, K.In base → base.Ns mainGlobals mg → FnOkG l.prog w K mg base (L2.CX l.prog w) (200 + 10) fa fd ["_law_script"] (spL K) := by
  have e := hfa.symm.trans (PySem.W.mg_of X G a30)
  cases e
  let fd0 : FuncData := PySem.W.fnOf "is_number" "is_number" (defArgs s0) (defBody s0) (defScope s0) .none kV0 dc0 pm0 an0 cd0 ct0
  let fd1 : FuncData := PySem.W.fnOf "is_name" "is_name" (defArgs s1) (defBody s1) (defScope s1) .none kV1 dc1 pm1 an1 cd1 ct1
  let fd2 : FuncData := PySem.W.fnOf "is_word" "is_word" (defArgs s2) (defBody s2) (defScope s2) .none kV2 dc2 pm2 an2 cd2 ct2
  let fd3 : FuncData := PySem.W.fnOf "measured" "measured" (defArgs s3) (defBody s3) (defScope s3) .none kV3 dc3 pm3 an3 cd3 ct3
  let fd4 : FuncData := PySem.W.fnOf "is_value" "is_value" (defArgs s4) (defBody s4) (defScope s4) .none kV4 dc4 pm4 an4 cd4 ct4
  let fd5 : FuncData := PySem.W.fnOf "is_term" "is_term" (defArgs s5) (defBody s5) (defScope s5) .none kV5 dc5 pm5 an5 cd5 ct5
  let fd6 : FuncData := PySem.W.fnOf "may_use" "may_use" (defArgs s6) (defBody s6) (defScope s6) .none kV6 dc6 pm6 an6 cd6 ct6
  let fd7 : FuncData := PySem.W.fnOf "may_ask" "may_ask" (defArgs s7) (defBody s7) (defScope s7) .none kV7 dc7 pm7 an7 cd7 ct7
  let fd8 : FuncData := PySem.W.fnOf "are_flags" "are_flags" (defArgs s8) (defBody s8) (defScope s8) .none kV8 dc8 pm8 an8 cd8 ct8
  let fd9 : FuncData := PySem.W.fnOf "__init__" "Checker.__init__" (defArgs s9) (defBody s9) (defScope s9) .none kV9 dc9 pm9 an9 cd9 ct9
  let fd10 : FuncData := PySem.W.fnOf "is_flag" "Checker.is_flag" (defArgs s10) (defBody s10) (defScope s10) .none kV10 dc10 pm10 an10 cd10 ct10
  let fd11 : FuncData := PySem.W.fnOf "is_block" "Checker.is_block" (defArgs s11) (defBody s11) (defScope s11) .none kV11 dc11 pm11 an11 cd11 ct11
  let fd12 : FuncData := PySem.W.fnOf "is_statement" "Checker.is_statement" (defArgs s12) (defBody s12) (defScope s12) .none kV12 dc12 pm12 an12 cd12 ct12
  let fd13 : FuncData := PySem.W.fnOf "is_question" "Checker.is_question" (defArgs s13) (defBody s13) (defScope s13) .none kV13 dc13 pm13 an13 cd13 ct13
  let fd14 : FuncData := PySem.W.fnOf "__init__" "Program.__init__" (defArgs s14) (defBody s14) (defScope s14) (.ref T14) kV14 dc14 pm14 an14 cd14 ct14
  let fd15 : FuncData := PySem.W.fnOf "__eq__" "Program.__eq__" (defArgs s15) (defBody s15) (defScope s15) .none kV15 dc15 pm15 an15 cd15 ct15
  let fd16 : FuncData := PySem.W.fnOf "_law_begin" "_law_begin" (defArgs s16) (defBody s16) (defScope s16) .none kV16 dc16 pm16 an16 cd16 ct16
  let fd17 : FuncData := PySem.W.fnOf "_law_mixed" "_law_mixed" (defArgs s17) (defBody s17) (defScope s17) .none kV17 dc17 pm17 an17 cd17 ct17
  let fd18 : FuncData := PySem.W.fnOf "_law_take" "_law_take" (defArgs s18) (defBody s18) (defScope s18) .none kV18 dc18 pm18 an18 cd18 ct18
  let fd19 : FuncData := PySem.W.fnOf "_law_pick" "_law_pick" (defArgs s19) (defBody s19) (defScope s19) .none kV19 dc19 pm19 an19 cd19 ct19
  let fd20 : FuncData := PySem.W.fnOf "_law_name" "_law_name" (defArgs s20) (defBody s20) (defScope s20) .none kV20 dc20 pm20 an20 cd20 ct20
  let fd21 : FuncData := PySem.W.fnOf "_law_plan" "_law_plan" (defArgs s21) (defBody s21) (defScope s21) .none kV21 dc21 pm21 an21 cd21 ct21
  let fd22 : FuncData := PySem.W.fnOf "_law_word" "_law_word" (defArgs s22) (defBody s22) (defScope s22) .none kV22 dc22 pm22 an22 cd22 ct22
  let fd23 : FuncData := PySem.W.fnOf "_law_height" "_law_height" (defArgs s23) (defBody s23) (defScope s23) .none kV23 dc23 pm23 an23 cd23 ct23
  let fd24 : FuncData := PySem.W.fnOf "_law_value" "_law_value" (defArgs s24) (defBody s24) (defScope s24) .none kV24 dc24 pm24 an24 cd24 ct24
  let fd25 : FuncData := PySem.W.fnOf "_law_term" "_law_term" (defArgs s25) (defBody s25) (defScope s25) .none kV25 dc25 pm25 an25 cd25 ct25
  let fd26 : FuncData := PySem.W.fnOf "_law_block" "_law_block" (defArgs s26) (defBody s26) (defScope s26) .none kV26 dc26 pm26 an26 cd26 ct26
  let fd27 : FuncData := PySem.W.fnOf "_law_statement" "_law_statement" (defArgs s27) (defBody s27) (defScope s27) .none kV27 dc27 pm27 an27 cd27 ct27
  let fd28 : FuncData := PySem.W.fnOf "_law_put_in" "_law_put_in" (defArgs s28) (defBody s28) (defScope s28) .none kV28 dc28 pm28 an28 cd28 ct28
  let fd29 : FuncData := PySem.W.fnOf "_law_unlike" "_law_unlike" (defArgs s29) (defBody s29) (defScope s29) .none kV29 dc29 pm29 an29 cd29 ct29
  let fd30 : FuncData := PySem.W.fnOf "law" "law" (defArgs s30) (defBody s30) (defScope s30) .none kV30 dc30 pm30 an30 cd30 ct30
  have W : LawN l.prog w L K mg [C0, C1, C2, C3] prog kit [(d0, f0, fd0), (d1, f1, fd1), (d2, f2, fd2), (d3, f3, fd3), (d4, f4, fd4), (d5, f5, fd5), (d6, f6, fd6), (d7, f7, fd7), (d8, f8, fd8), (d9, f9, fd9), (d10, f10, fd10), (d11, f11, fd11), (d12, f12, fd12), (d13, f13, fd13), (d14, f14, fd14), (d15, f15, fd15), (d16, f16, fd16), (d17, f17, fd17), (d18, f18, fd18), (d19, f19, fd19), (d20, f20, fd20), (d21, f21, fd21), (d22, f22, fd22), (d23, f23, fd23), (d24, f24, fd24), (d25, f25, fd25), (d26, f26, fd26), (d27, f27, fd27), (d28, f28, fd28), (d29, f29, fd29), (d30, fa, fd30)] := by
    refine ⟨⟨⟨rfl, ⟨⟨_, _, _, _, _, _, _, _, _, _, rfl, l0, c0⟩, k0⟩, ok0⟩, ⟨rfl, ⟨⟨_, _, _, _, _, _, _, _, _, _, rfl, l1, c1⟩, k1⟩, ok1⟩, ⟨rfl, ⟨⟨_, _, _, _, _, _, _, _, _, _, rfl, l2, c2⟩, k2⟩, ok2⟩, ⟨rfl, ⟨⟨_, _, _, _, _, _, _, _, _, _, rfl, l3, c3⟩, k3⟩, ok3⟩, ⟨rfl, ⟨⟨_, _, _, _, _, _, _, _, _, _, rfl, l4, c4⟩, k4⟩, ok4⟩, ⟨rfl, ⟨⟨_, _, _, _, _, _, _, _, _, _, rfl, l5, c5⟩, k5⟩, ok5⟩, ⟨rfl, ⟨⟨_, _, _, _, _, _, _, _, _, _, rfl, l6, c6⟩, k6⟩, ok6⟩, ⟨rfl, ⟨⟨_, _, _, _, _, _, _, _, _, _, rfl, l7, c7⟩, k7⟩, ok7⟩, ⟨rfl, ⟨⟨_, _, _, _, _, _, _, _, _, _, rfl, l8, c8⟩, k8⟩, ok8⟩, ⟨rfl, ⟨⟨_, _, _, _, _, _, _, _, _, _, rfl, l9, c9⟩, k9⟩, ok9⟩, ⟨rfl, ⟨⟨_, _, _, _, _, _, _, _, _, _, rfl, l10, c10⟩, k10⟩, ok10⟩, ⟨rfl, ⟨⟨_, _, _, _, _, _, _, _, _, _, rfl, l11, c11⟩, k11⟩, ok11⟩, ⟨rfl, ⟨⟨_, _, _, _, _, _, _, _, _, _, rfl, l12, c12⟩, k12⟩, ok12⟩, ⟨rfl, ⟨⟨_, _, _, _, _, _, _, _, _, _, rfl, l13, c13⟩, k13⟩, ok13⟩, ⟨rfl, ⟨⟨_, _, _, _, _, _, _, _, _, _, rfl, l14, c14⟩, k14⟩, ok14⟩, ⟨rfl, ⟨⟨_, _, _, _, _, _, _, _, _, _, rfl, l15, c15⟩, k15⟩, ok15⟩, ⟨rfl, ⟨⟨_, _, _, _, _, _, _, _, _, _, rfl, l16, c16⟩, k16⟩, ok16⟩, ⟨rfl, ⟨⟨_, _, _, _, _, _, _, _, _, _, rfl, l17, c17⟩, k17⟩, ok17⟩, ⟨rfl, ⟨⟨_, _, _, _, _, _, _, _, _, _, rfl, l18, c18⟩, k18⟩, ok18⟩, ⟨rfl, ⟨⟨_, _, _, _, _, _, _, _, _, _, rfl, l19, c19⟩, k19⟩, ok19⟩, ⟨rfl, ⟨⟨_, _, _, _, _, _, _, _, _, _, rfl, l20, c20⟩, k20⟩, ok20⟩, ⟨rfl, ⟨⟨_, _, _, _, _, _, _, _, _, _, rfl, l21, c21⟩, k21⟩, ok21⟩, ⟨rfl, ⟨⟨_, _, _, _, _, _, _, _, _, _, rfl, l22, c22⟩, k22⟩, ok22⟩, ⟨rfl, ⟨⟨_, _, _, _, _, _, _, _, _, _, rfl, l23, c23⟩, k23⟩, ok23⟩, ⟨rfl, ⟨⟨_, _, _, _, _, _, _, _, _, _, rfl, l24, c24⟩, k24⟩, ok24⟩, ⟨rfl, ⟨⟨_, _, _, _, _, _, _, _, _, _, rfl, l25, c25⟩, k25⟩, ok25⟩, ⟨rfl, ⟨⟨_, _, _, _, _, _, _, _, _, _, rfl, l26, c26⟩, k26⟩, ok26⟩, ⟨rfl, ⟨⟨_, _, _, _, _, _, _, _, _, _, rfl, l27, c27⟩, k27⟩, ok27⟩, ⟨rfl, ⟨⟨_, _, _, _, _, _, _, _, _, _, rfl, l28, c28⟩, k28⟩, ok28⟩, ⟨rfl, ⟨⟨_, _, _, _, _, _, _, _, _, _, rfl, l29, c29⟩, k29⟩, ok29⟩, ⟨rfl, ⟨⟨_, _, _, _, _, _, _, _, _, _, rfl, l30, c30⟩, k30⟩, ok30⟩, trivial⟩, ?shape, ?fn, ?cls, ?init, ?own, ?ownL, ?ownB, ?xcl, ?xkit, ?mth, ?glb, ?blt, ?attr, ?kit_, ?kitc, ?exc, ?tch, ?gdc⟩
    case shape => exact ⟨⟨_, rfl, rfl, bindsC_pos (ps := ["thing"]) fun us hl => match us, hl with | [_], _ => rfl⟩, ⟨_, rfl, rfl, bindsC_pos (ps := ["thing"]) fun us hl => match us, hl with | [_], _ => rfl⟩, ⟨_, rfl, rfl, bindsC_pos (ps := ["thing"]) fun us hl => match us, hl with | [_], _ => rfl⟩, ⟨_, rfl, rfl, bindsC_pos (ps := ["thing", "room"]) fun us hl => match us, hl with | [_, _], _ => rfl⟩, ⟨_, rfl, rfl, bindsC_pos (ps := ["thing"]) fun us hl => match us, hl with | [_], _ => rfl⟩, ⟨_, rfl, rfl, bindsC_pos (ps := ["thing"]) fun us hl => match us, hl with | [_], _ => rfl⟩, ⟨_, rfl, rfl, bindsC_pos (ps := ["value", "level", "called"]) fun us hl => match us, hl with | [_, _, _], _ => rfl⟩, ⟨_, rfl, rfl, bindsC_pos (ps := ["term", "level", "called"]) fun us hl => match us, hl with | [_, _, _], _ => rfl⟩, ⟨_, rfl, rfl, bindsC_pos (ps := ["flags"]) fun us hl => match us, hl with | [_], _ => rfl⟩, ⟨_, rfl, rfl, bindsC_pos (ps := ["self", "flags"]) fun us hl => match us, hl with | [_, _], _ => rfl⟩, ⟨_, rfl, rfl, bindsC_pos (ps := ["self", "name"]) fun us hl => match us, hl with | [_, _], _ => rfl⟩, ⟨_, rfl, rfl, bindsC_pos (ps := ["self", "block", "level", "called", "deep"]) fun us hl => match us, hl with | [_, _, _, _, _], _ => rfl⟩, ⟨_, rfl, rfl, bindsC_pos (ps := ["self", "statement", "level", "called", "deep"]) fun us hl => match us, hl with | [_, _, _, _, _], _ => rfl⟩, ⟨_, rfl, rfl, bindsC_pos (ps := ["self", "question", "level", "called"]) fun us hl => match us, hl with | [_, _, _, _], _ => rfl⟩, ⟨_, rfl, rfl, bindsC_D (ks := ["body", "other", "flags"]) (ps := ["self", "body", "other", "flags"]) (Dk := 0) (dvs := [(L2.V.ref te14_0), (L2.V.ref te14_1)]) (ms := []) (its := [(.ref te14_0), (.ref te14_1)]) (fun {α} us its mv ws => ((us.drop 0).take 1) ++ ((ws.drop 0).take 1) ++ ((ws.drop 1).take 1) ++ ((ws.drop 2).take 1)) t14 rfl (.cons (show L2.RelV (L2.V.ref te14_0) _ from rfl) (.cons (show L2.RelV (L2.V.ref te14_1) _ from rfl) (.nil))) (fun q hq => (by cases hq)) (fun r1 r2 r3 r4 => (((((r1.drop 0).take 1)).append ((r4.drop 0).take 1)).append ((r4.drop 1).take 1)).append ((r4.drop 2).take 1)) (fun us mv ws l1 l2 l3 => match us, mv, ws, l1, l2, l3 with | [a0], [], [b0, b1, b2], _, _, _ => ⟨_, rfl, rfl⟩) (fun H ds vs es zs l1 l2 r1 r2 => match ds, l1, es, l2 with | [_], _, [_, _, _], _ => by rcases r1 with _ | ⟨p0, r1⟩; cases r1; rcases r2 with _ | ⟨q0, r2⟩; rcases r2 with _ | ⟨q1, r2⟩; rcases r2 with _ | ⟨q2, r2⟩; cases r2; exact .cons p0 (.cons q0 (.cons q1 (.cons q2 (.nil)))))⟩, ⟨_, rfl, rfl, bindsC_D (ks := ["flags", "other", "body"]) (ps := ["self", "body", "other", "flags"]) (Dk := 0) (dvs := [(L2.V.ref te14_0), (L2.V.ref te14_1)]) (ms := []) (its := [(.ref te14_0), (.ref te14_1)]) (fun {α} us its mv ws => ((us.drop 0).take 1) ++ ((ws.drop 2).take 1) ++ ((ws.drop 1).take 1) ++ ((ws.drop 0).take 1)) t14 rfl (.cons (show L2.RelV (L2.V.ref te14_0) _ from rfl) (.cons (show L2.RelV (L2.V.ref te14_1) _ from rfl) (.nil))) (fun q hq => (by cases hq)) (fun r1 r2 r3 r4 => (((((r1.drop 0).take 1)).append ((r4.drop 2).take 1)).append ((r4.drop 1).take 1)).append ((r4.drop 0).take 1)) (fun us mv ws l1 l2 l3 => match us, mv, ws, l1, l2, l3 with | [a0], [], [b0, b1, b2], _, _, _ => ⟨_, rfl, rfl⟩) (fun H ds vs es zs l1 l2 r1 r2 => match ds, l1, es, l2 with | [_], _, [_, _, _], _ => by rcases r1 with _ | ⟨p0, r1⟩; cases r1; rcases r2 with _ | ⟨q0, r2⟩; rcases r2 with _ | ⟨q1, r2⟩; rcases r2 with _ | ⟨q2, r2⟩; cases r2; exact .cons p0 (.cons q2 (.cons q1 (.cons q0 (.nil)))))⟩, ⟨_, rfl, rfl, bindsC_D (ks := []) (ps := ["self", "body", "other", "flags"]) (Dk := 0) (dvs := [(L2.V.ref te14_0), (L2.V.ref te14_1)]) (ms := []) (its := [(.ref te14_0), (.ref te14_1)]) (fun {α} us its mv ws => ((us.drop 0).take 1) ++ ((us.drop 1).take 1) ++ ((its.drop 0).take 1) ++ ((its.drop 1).take 1)) t14 rfl (.cons (show L2.RelV (L2.V.ref te14_0) _ from rfl) (.cons (show L2.RelV (L2.V.ref te14_1) _ from rfl) (.nil))) (fun q hq => (by cases hq)) (fun r1 r2 r3 r4 => (((((r1.drop 0).take 1)).append ((r1.drop 1).take 1)).append ((r2.drop 0).take 1)).append ((r2.drop 1).take 1)) (fun us mv ws l1 l2 l3 => match us, mv, ws, l1, l2, l3 with | [a0, a1], [], [], _, _, _ => ⟨_, rfl, rfl⟩) (fun H ds vs es zs l1 l2 r1 r2 => match ds, l1, es, l2 with | [_, _], _, [], _ => by rcases r1 with _ | ⟨p0, r1⟩; rcases r1 with _ | ⟨p1, r1⟩; cases r1; cases r2; exact .cons p0 (.cons p1 (.cons (.tup (.inr ⟨_, _, _, hte14_0, rfl, rfl, by decide, .nil⟩) .nil) (.cons (.tup (.inr ⟨_, _, _, hte14_1, rfl, rfl, by decide, .nil⟩) .nil) (.nil)))))⟩, ⟨_, rfl, rfl, bindsC_D (ks := ["flags"]) (ps := ["self", "body", "other", "flags"]) (Dk := 0) (dvs := [(L2.V.ref te14_0), (L2.V.ref te14_1)]) (ms := []) (its := [(.ref te14_0), (.ref te14_1)]) (fun {α} us its mv ws => ((us.drop 0).take 1) ++ ((us.drop 1).take 1) ++ ((its.drop 0).take 1) ++ ((ws.drop 0).take 1)) t14 rfl (.cons (show L2.RelV (L2.V.ref te14_0) _ from rfl) (.cons (show L2.RelV (L2.V.ref te14_1) _ from rfl) (.nil))) (fun q hq => (by cases hq)) (fun r1 r2 r3 r4 => (((((r1.drop 0).take 1)).append ((r1.drop 1).take 1)).append ((r2.drop 0).take 1)).append ((r4.drop 0).take 1)) (fun us mv ws l1 l2 l3 => match us, mv, ws, l1, l2, l3 with | [a0, a1], [], [b0], _, _, _ => ⟨_, rfl, rfl⟩) (fun H ds vs es zs l1 l2 r1 r2 => match ds, l1, es, l2 with | [_, _], _, [_], _ => by rcases r1 with _ | ⟨p0, r1⟩; rcases r1 with _ | ⟨p1, r1⟩; cases r1; rcases r2 with _ | ⟨q0, r2⟩; cases r2; exact .cons p0 (.cons p1 (.cons (.tup (.inr ⟨_, _, _, hte14_0, rfl, rfl, by decide, .nil⟩) .nil) (.cons q0 (.nil)))))⟩, ⟨_, rfl, rfl, bindsC_D (ks := ["flags"]) (ps := ["self", "body", "other", "flags"]) (Dk := 0) (dvs := [(L2.V.ref te14_0), (L2.V.ref te14_1)]) (ms := []) (its := [(.ref te14_0), (.ref te14_1)]) (fun {α} us its mv ws => ((us.drop 0).take 1) ++ ((us.drop 1).take 1) ++ ((us.drop 2).take 1) ++ ((ws.drop 0).take 1)) t14 rfl (.cons (show L2.RelV (L2.V.ref te14_0) _ from rfl) (.cons (show L2.RelV (L2.V.ref te14_1) _ from rfl) (.nil))) (fun q hq => (by cases hq)) (fun r1 r2 r3 r4 => (((((r1.drop 0).take 1)).append ((r1.drop 1).take 1)).append ((r1.drop 2).take 1)).append ((r4.drop 0).take 1)) (fun us mv ws l1 l2 l3 => match us, mv, ws, l1, l2, l3 with | [a0, a1, a2], [], [b0], _, _, _ => ⟨_, rfl, rfl⟩) (fun H ds vs es zs l1 l2 r1 r2 => match ds, l1, es, l2 with | [_, _, _], _, [_], _ => by rcases r1 with _ | ⟨p0, r1⟩; rcases r1 with _ | ⟨p1, r1⟩; rcases r1 with _ | ⟨p2, r1⟩; cases r1; rcases r2 with _ | ⟨q0, r2⟩; cases r2; exact .cons p0 (.cons p1 (.cons p2 (.cons q0 (.nil)))))⟩, ⟨_, rfl, rfl, bindsC_D (ks := []) (ps := ["self", "body", "other", "flags"]) (Dk := 0) (dvs := [(L2.V.ref te14_0), (L2.V.ref te14_1)]) (ms := []) (its := [(.ref te14_0), (.ref te14_1)]) (fun {α} us its mv ws => ((us.drop 0).take 1) ++ ((us.drop 1).take 1) ++ ((us.drop 2).take 1) ++ ((us.drop 3).take 1)) t14 rfl (.cons (show L2.RelV (L2.V.ref te14_0) _ from rfl) (.cons (show L2.RelV (L2.V.ref te14_1) _ from rfl) (.nil))) (fun q hq => (by cases hq)) (fun r1 r2 r3 r4 => (((((r1.drop 0).take 1)).append ((r1.drop 1).take 1)).append ((r1.drop 2).take 1)).append ((r1.drop 3).take 1)) (fun us mv ws l1 l2 l3 => match us, mv, ws, l1, l2, l3 with | [a0, a1, a2, a3], [], [], _, _, _ => ⟨_, rfl, rfl⟩) (fun H ds vs es zs l1 l2 r1 r2 => match ds, l1, es, l2 with | [_, _, _, _], _, [], _ => by rcases r1 with _ | ⟨p0, r1⟩; rcases r1 with _ | ⟨p1, r1⟩; rcases r1 with _ | ⟨p2, r1⟩; rcases r1 with _ | ⟨p3, r1⟩; cases r1; cases r2; exact .cons p0 (.cons p1 (.cons p2 (.cons p3 (.nil)))))⟩, ⟨_, rfl, rfl, bindsC_pos (ps := ["self", "other"]) fun us hl => match us, hl with | [_, _], _ => rfl⟩, ⟨_, rfl, rfl, bindsC_pos (ps := ["_law_script"]) fun us hl => match us, hl with | [_], _ => rfl⟩, ⟨_, rfl, rfl, bindsC_pos (ps := ["_law_state"]) fun us hl => match us, hl with | [_], _ => rfl⟩, ⟨_, rfl, rfl, bindsC_pos (ps := ["_law_state", "_law_size"]) fun us hl => match us, hl with | [_, _], _ => rfl⟩, ⟨_, rfl, rfl, bindsC_pos (ps := ["_law_state", "_law_some"]) fun us hl => match us, hl with | [_, _], _ => rfl⟩, ⟨_, rfl, rfl, bindsC_pos (ps := ["_law_state", "_law_first", "_law_words"]) fun us hl => match us, hl with | [_, _, _], _ => rfl⟩, ⟨_, rfl, rfl, bindsC_pos (ps := ["_law_state", "_law_room"]) fun us hl => match us, hl with | [_, _], _ => rfl⟩, ⟨_, rfl, rfl, bindsC_pos (ps := ["_law_state"]) fun us hl => match us, hl with | [_], _ => rfl⟩, ⟨_, rfl, rfl, bindsC_pos (ps := ["_law_value_here"]) fun us hl => match us, hl with | [_], _ => rfl⟩, ⟨_, rfl, rfl, bindsC_pos (ps := ["_law_state", "_law_level", "_law_called"]) fun us hl => match us, hl with | [_, _, _], _ => rfl⟩, ⟨_, rfl, rfl, bindsC_pos (ps := ["_law_state", "_law_names", "_law_level", "_law_called"]) fun us hl => match us, hl with | [_, _, _, _], _ => rfl⟩, ⟨_, rfl, rfl, bindsC_pos (ps := ["_law_state", "_law_plan_here", "_law_level", "_law_called", "_law_nest"]) fun us hl => match us, hl with | [_, _, _, _, _], _ => rfl⟩, ⟨_, rfl, rfl, bindsC_pos (ps := ["_law_state", "_law_plan_here", "_law_level", "_law_called", "_law_nest"]) fun us hl => match us, hl with | [_, _, _, _, _], _ => rfl⟩, ⟨_, rfl, rfl, bindsC_pos (ps := ["_law_state", "_law_block_here", "_law_statement_here"]) fun us hl => match us, hl with | [_, _, _], _ => rfl⟩, ⟨_, rfl, rfl, bindsC_pos (ps := ["_law_program", "_law_others"]) fun us hl => match us, hl with | [_, _], _ => rfl⟩, trivial⟩
    case fn => exact ⟨⟨_, rfl, PySem.W.mg_of X G a0⟩, ⟨_, rfl, PySem.W.mg_of X G a1⟩, ⟨_, rfl, PySem.W.mg_of X G a2⟩, ⟨_, rfl, PySem.W.mg_of X G a3⟩, ⟨_, rfl, PySem.W.mg_of X G a4⟩, ⟨_, rfl, PySem.W.mg_of X G a5⟩, ⟨_, rfl, PySem.W.mg_of X G a6⟩, ⟨_, rfl, PySem.W.mg_of X G a7⟩, ⟨_, rfl, PySem.W.mg_of X G a8⟩, ⟨_, rfl, PySem.W.mg_of X G a16⟩, ⟨_, rfl, PySem.W.mg_of X G a17⟩, ⟨_, rfl, PySem.W.mg_of X G a18⟩, ⟨_, rfl, PySem.W.mg_of X G a19⟩, ⟨_, rfl, PySem.W.mg_of X G a20⟩, ⟨_, rfl, PySem.W.mg_of X G a21⟩, ⟨_, rfl, PySem.W.mg_of X G a22⟩, ⟨_, rfl, PySem.W.mg_of X G a23⟩, ⟨_, rfl, PySem.W.mg_of X G a24⟩, ⟨_, rfl, PySem.W.mg_of X G a25⟩, ⟨_, rfl, PySem.W.mg_of X G a26⟩, ⟨_, rfl, PySem.W.mg_of X G a27⟩, ⟨_, rfl, PySem.W.mg_of X G a28⟩, ⟨_, rfl, PySem.W.mg_of X G a29⟩, trivial⟩
    case cls => exact ⟨⟨_, rfl, PySem.W.mg_of X G e1⟩, ⟨_, rfl, PySem.W.mg_of X G e2⟩, ⟨_, rfl, PySem.W.mg_of X G e3⟩, trivial⟩
    case init => exact ⟨⟨_, _, rfl, rfl, ⟨mk2, a9, i9, kc2⟩⟩, ⟨_, _, rfl, rfl, ⟨mk3, a14, i14, kc3⟩⟩, trivial⟩
    case own => exact ⟨⟨_, _, rfl, rfl, ⟨a15, i15, on3, oo3⟩, ⟨ox3_0, ox3_1, ox3_2, ox3_3⟩⟩, trivial⟩
    case ownL => exact trivial
    case ownB => exact trivial
    case xcl => exact trivial
    case xkit => exact trivial
    case mth => exact ⟨⟨_, _, rfl, rfl, ⟨cg2, cD2, co2, cs2⟩, ⟨a11, i11, k11⟩⟩, ⟨_, _, rfl, rfl, ⟨cg2, cD2, co2, cs2⟩, ⟨a10, i10, k10⟩⟩, ⟨_, _, rfl, rfl, ⟨cg2, cD2, co2, cs2⟩, ⟨a13, i13, k13⟩⟩, ⟨_, _, rfl, rfl, ⟨cg2, cD2, co2, cs2⟩, ⟨a12, i12, k12⟩⟩, trivial⟩
    case glb => exact ⟨⟨_, _, PySem.W.mg_of X G gb0, relV_str, fun H => .str _⟩, ⟨_, _, PySem.W.mg_of X G gb1, relV_str, fun H => .str _⟩, ⟨_, _, PySem.W.mg_of X G gb2, relV_int, fun H => .int _⟩, ⟨_, _, PySem.W.mg_of X G gb3, relV_int, fun H => .int _⟩, ⟨_, _, PySem.W.mg_of X G gb4, relV_int, fun H => .int _⟩, ⟨_, _, PySem.W.mg_of X G gb5, relV_int, fun H => .int _⟩, ⟨_, _, PySem.W.mg_of X G gb6, relV_int, fun H => .int _⟩, ⟨_, _, PySem.W.mg_of X G gb7, relV_int, fun H => .int _⟩, ⟨_, _, PySem.W.mg_of X G gb8, relV_str, fun H => .str _⟩, trivial⟩
    case blt => exact ⟨PySem.W.mg_none_of X G z0, PySem.W.mg_none_of X G z1, PySem.W.mg_none_of X G z2, PySem.W.mg_none_of X G z3, PySem.W.mg_none_of X G z4, PySem.W.mg_none_of X G z5, PySem.W.mg_none_of X G z6, PySem.W.mg_none_of X G z7, PySem.W.mg_none_of X G z8, PySem.W.mg_none_of X G z9, PySem.W.mg_none_of X G z10, PySem.W.mg_none_of X G z11, PySem.W.mg_none_of X G z12, PySem.W.mg_none_of X G z13, trivial⟩
    case attr => exact ⟨fun Ca e => by cases e; exact ⟨⟨cg2, cD2, co2, cs2⟩, na0⟩, fun Ca e => by cases e; exact ⟨⟨cg2, cD2, co2, cs2⟩, na1⟩, fun Ca e => by cases e; exact ⟨⟨cg3, cD3, co3, cs3⟩, na2⟩, fun Ca e => by cases e; exact ⟨⟨cg3, cD3, co3, cs3⟩, na3⟩, fun Ca e => by cases e; exact ⟨⟨cg3, cD3, co3, cs3⟩, na4⟩, trivial⟩
    case kit_ => exact AllP.app (xs := kitOwn) ⟨kitP_in rfl ki0, kitP_in rfl ki1, kitP_in rfl ki2, kitP_in rfl ki3, kitP_in rfl ki4, kitP_in rfl ki5, kitP_in rfl ki6, kitP_own rfl rfl ki7, kitP_of rfl ki8, kitP_of rfl ki9, kitP_of rfl ki10, kitP_of rfl ki11, kitP_of rfl ki12, trivial⟩ kitPlain_ok
    case kitc => exact AllP.app (xs := kitOwn) ⟨fun _ _ e _ => (nomatch e), fun _ _ e _ => (nomatch e), fun _ _ e _ => (nomatch e), fun _ _ e _ => (nomatch e), fun _ _ e _ => (nomatch e), fun _ _ e _ => (nomatch e), fun _ _ e _ => (nomatch e), fun c Ca e1 e2 => by cases e1; cases e2; exact ⟨⟨cg3, cD3, co3, cs3⟩, kh3, kn3, kt3, km3⟩, fun c Ca e1 e2 => by cases e1; cases e2; exact ⟨⟨cg3, cD3, co3, cs3⟩, kh3, kn3, kt3, km3⟩, fun c Ca e1 e2 => by cases e1; cases e2; exact ⟨⟨cg3, cD3, co3, cs3⟩, kh3, kn3, kt3, km3⟩, fun c Ca e1 e2 => by cases e1; cases e2; exact ⟨⟨cg3, cD3, co3, cs3⟩, kh3, kn3, kt3, km3⟩, fun c Ca e1 e2 => by cases e1; cases e2; exact ⟨⟨cg3, cD3, co3, cs3⟩, kh3, kn3, kt3, km3⟩, fun c Ca e1 e2 => by cases e1; cases e2; exact ⟨⟨cg3, cD3, co3, cs3⟩, kh3, kn3, kt3, km3⟩, trivial⟩ kitPlain_c
    case exc => exact ⟨fun Ca e => by cases e; exact ⟨xa1, xb1, xc1, xd1⟩, trivial⟩
    case tch => exact trivial
    case gdc => exact ⟨⟨_, PySem.W.mg_of X G gda0, wdct_of gdl0 gdk0_8 gds0 (fun q hq => (by simp only [List.mem_cons, List.not_mem_nil, or_false] at hq; rcases hq with rfl | rfl | rfl | rfl | rfl | rfl | rfl | rfl; exact ⟨_, gdv0_0⟩; exact ⟨_, gdv0_1⟩; exact ⟨_, gdv0_2⟩; exact ⟨_, gdv0_3⟩; exact ⟨_, gdv0_4⟩; exact ⟨_, gdv0_5⟩; exact ⟨_, gdv0_6⟩; exact ⟨_, gdv0_7⟩))⟩, trivial⟩
  exact ⟨fd30, fun s v => .of_eq rfl, fun base _ _ => L3.law_ok W (by rfl) rfl S⟩
end My
open PySem PySem.W PyProof.Rows
set_option maxRecDepth 100000 in
set_option maxHeartbeats 0 in
theorem PySem.Challenge.cw_loopforms_k05_programs_made_holds : PySem.Challenge.rw_loopforms_k05_programs_made.Holds := by
  w_on; o_law; k_head; (case hw => w_witness2)
  k_fill
  refine L3.walk3 (l := PySem.Challenge.rw_loopforms_k05_programs_made) (x := "_law_script") (k := 200 + 10) rfl rfl ⟨rfl, by decide, by decide⟩ (fun w h Y => PySem.W.kIn_of Y) ?F
  case F =>
    intro w mg fa h KX G hmg
    refine' My.all_mk KX G hmg ?e0 ?e1 ?e2 ?e3 ?a0 ?l0 ?c0 ?k0 ?a1 ?l1 ?c1 ?k1 ?a2 ?l2 ?c2 ?k2 ?a3 ?l3 ?c3 ?k3 ?a4 ?l4 ?c4 ?k4 ?a5 ?l5 ?c5 ?k5 ?a6 ?l6 ?c6 ?k6 ?a7 ?l7 ?c7 ?k7 ?a8 ?l8 ?c8 ?k8 ?a9 ?i9 ?l9 ?c9 ?k9 ?a10 ?i10 ?l10 ?c10 ?k10 ?a11 ?i11 ?l11 ?c11 ?k11 ?a12 ?i12 ?l12 ?c12 ?k12 ?a13 ?i13 ?l13 ?c13 ?k13 ?a14 ?i14 ?l14 ?t14 ?hte14_0 ?hte14_1 ?c14 ?k14 ?a15 ?i15 ?l15 ?c15 ?k15 ?a16 ?l16 ?c16 ?k16 ?a17 ?l17 ?c17 ?k17 ?a18 ?l18 ?c18 ?k18 ?a19 ?l19 ?c19 ?k19 ?a20 ?l20 ?c20 ?k20 ?a21 ?l21 ?c21 ?k21 ?a22 ?l22 ?c22 ?k22 ?a23 ?l23 ?c23 ?k23 ?a24 ?l24 ?c24 ?k24 ?a25 ?l25 ?c25 ?k25 ?a26 ?l26 ?c26 ?k26 ?a27 ?l27 ?c27 ?k27 ?a28 ?l28 ?c28 ?k28 ?a29 ?l29 ?c29 ?k29 ?a30 ?l30 ?c30 ?k30 ?gb0 ?gb1 ?gb2 ?gb3 ?gb4 ?gb5 ?gb6 ?gb7 ?gb8 ?z0 ?z1 ?z2 ?z3 ?z4 ?z5 ?z6 ?z7 ?z8 ?z9 ?z10 ?z11 ?z12 ?z13 ?xa1 ?xb1 ?xc1 ?xd1 ?cg2 ?cD2 ?co2 ?cs2 ?cg3 ?cD3 ?co3 ?cs3 ?na0 ?na1 ?na2 ?na3 ?na4 ?mk2 ?kc2 ?mk3 ?kc3 ?kh3 ?kn3 ?kt3 ?km3 ?ki0 ?ki1 ?ki2 ?ki3 ?ki4 ?ki5 ?ki6 ?ki7 ?ki8 ?ki9 ?ki10 ?ki11 ?ki12 ?on3 ?oo3 ?ox3_0 ?ox3_1 ?ox3_2 ?ox3_3 ?gda0 ?gdl0 ?gdk0_8 ?gds0 ?gdv0_0 ?gdv0_1 ?gdv0_2 ?gdv0_3 ?gdv0_4 ?gdv0_5 ?gdv0_6 ?gdv0_7 My.law_ok
    (case e0 => k_is)
    (case e1 => k_is)
    (case e2 => k_is)
    (case e3 => k_is)
    (case a0 => k_is)
    (case l0 => k_is)
    (case c0 => k_is)
    (case k0 => k_is)
    (case a1 => k_is)
    (case l1 => k_is)
    (case c1 => k_is)
    (case k1 => k_is)
    (case a2 => k_is)
    (case l2 => k_is)
    (case c2 => k_is)
    (case k2 => k_is)
    (case a3 => k_is)
    (case l3 => k_is)
    (case c3 => k_is)
    (case k3 => k_is)
    (case a4 => k_is)
    (case l4 => k_is)
    (case c4 => k_is)
    (case k4 => k_is)
    (case a5 => k_is)
    (case l5 => k_is)
    (case c5 => k_is)
    (case k5 => k_is)
    (case a6 => k_is)
    (case l6 => k_is)
    (case c6 => k_is)
    (case k6 => k_is)
    (case a7 => k_is)
    (case l7 => k_is)
    (case c7 => k_is)
    (case k7 => k_is)
    (case a8 => k_is)
    (case l8 => k_is)
    (case c8 => k_is)
    (case k8 => k_is)
    (case a9 => k_is)
    (case i9 => k_is)
    (case l9 => k_is)
    (case c9 => k_is)
    (case k9 => k_is)
    (case a10 => k_is)
    (case i10 => k_is)
    (case l10 => k_is)
    (case c10 => k_is)
    (case k10 => k_is)
    (case a11 => k_is)
    (case i11 => k_is)
    (case l11 => k_is)
    (case c11 => k_is)
    (case k11 => k_is)
    (case a12 => k_is)
    (case i12 => k_is)
    (case l12 => k_is)
    (case c12 => k_is)
    (case k12 => k_is)
    (case a13 => k_is)
    (case i13 => k_is)
    (case l13 => k_is)
    (case c13 => k_is)
    (case k13 => k_is)
    (case a14 => k_is)
    (case i14 => k_is)
    (case l14 => k_is)
    (case t14 => k_is)
    (case hte14_0 => k_is)
    (case hte14_1 => k_is)
    (case c14 => k_is)
    (case k14 => k_is)
    (case a15 => k_is)
    (case i15 => k_is)
    (case l15 => k_is)
    (case c15 => k_is)
    (case k15 => k_is)
    (case a16 => k_is)
    (case l16 => k_is)
    (case c16 => k_is)
    (case k16 => k_is)
    (case a17 => k_is)
    (case l17 => k_is)
    (case c17 => k_is)
    (case k17 => k_is)
    (case a18 => k_is)
    (case l18 => k_is)
    (case c18 => k_is)
    (case k18 => k_is)
    (case a19 => k_is)
    (case l19 => k_is)
    (case c19 => k_is)
    (case k19 => k_is)
    (case a20 => k_is)
    (case l20 => k_is)
    (case c20 => k_is)
    (case k20 => k_is)
    (case a21 => k_is)
    (case l21 => k_is)
    (case c21 => k_is)
    (case k21 => k_is)
    (case a22 => k_is)
    (case l22 => k_is)
    (case c22 => k_is)
    (case k22 => k_is)
    (case a23 => k_is)
    (case l23 => k_is)
    (case c23 => k_is)
    (case k23 => k_is)
    (case a24 => k_is)
    (case l24 => k_is)
    (case c24 => k_is)
    (case k24 => k_is)
    (case a25 => k_is)
    (case l25 => k_is)
    (case c25 => k_is)
    (case k25 => k_is)
    (case a26 => k_is)
    (case l26 => k_is)
    (case c26 => k_is)
    (case k26 => k_is)
    (case a27 => k_is)
    (case l27 => k_is)
    (case c27 => k_is)
    (case k27 => k_is)
    (case a28 => k_is)
    (case l28 => k_is)
    (case c28 => k_is)
    (case k28 => k_is)
    (case a29 => k_is)
    (case l29 => k_is)
    (case c29 => k_is)
    (case k29 => k_is)
    (case a30 => k_is)
    (case l30 => k_is)
    (case c30 => k_is)
    (case k30 => k_is)
    (case gb0 => k_is)
    (case gb1 => k_is)
    (case gb2 => k_is)
    (case gb3 => k_is)
    (case gb4 => k_is)
    (case gb5 => k_is)
    (case gb6 => k_is)
    (case gb7 => k_is)
    (case gb8 => k_is)
    (case z0 => k_is)
    (case z1 => k_is)
    (case z2 => k_is)
    (case z3 => k_is)
    (case z4 => k_is)
    (case z5 => k_is)
    (case z6 => k_is)
    (case z7 => k_is)
    (case z8 => k_is)
    (case z9 => k_is)
    (case z10 => k_is)
    (case z11 => k_is)
    (case z12 => k_is)
    (case z13 => k_is)
    (case xa1 => k_exc)
    (case xb1 => k_is)
    (case xc1 => k_is)
    (case xd1 => k_is)
    (case cg2 => k_is)
    (case cD2 => k_is)
    (case co2 => k_is)
    (case cs2 => k_is)
    (case cg3 => k_is)
    (case cD3 => k_is)
    (case co3 => k_is)
    (case cs3 => k_is)
    (case na0 => k_is)
    (case na1 => k_is)
    (case na2 => k_is)
    (case na3 => k_is)
    (case na4 => k_is)
    (case mk2 => k_is)
    (case kc2 => k_is)
    (case mk3 => k_is)
    (case kc3 => k_is)
    (case kh3 => k_is)
    (case kn3 => k_is)
    (case kt3 => k_is)
    (case km3 => k_is)
    (case ki0 => kit_is)
    (case ki1 => kit_is)
    (case ki2 => kit_is)
    (case ki3 => kit_is)
    (case ki4 => kit_is)
    (case ki5 => kit_is)
    (case ki6 => kit_is)
    (case ki7 => kit_is)
    (case ki8 => kit_is)
    (case ki9 => kit_is)
    (case ki10 => kit_is)
    (case ki11 => kit_is)
    (case ki12 => kit_is)
    (case on3 => k_is)
    (case oo3 => k_is)
    (case ox3_0 => k_is)
    (case ox3_1 => k_is)
    (case ox3_2 => k_is)
    (case ox3_3 => k_is)
    (case gda0 => k_is)
    (case gdl0 => k_is)
    (case gdk0_8 => exact ⟨⟨_, _, rfl, rfl⟩, ⟨_, _, rfl, rfl⟩, ⟨_, _, rfl, rfl⟩, ⟨_, _, rfl, rfl⟩, ⟨_, _, rfl, rfl⟩, ⟨_, _, rfl, rfl⟩, ⟨_, _, rfl, rfl⟩, ⟨_, _, rfl, rfl⟩, trivial⟩)
    (case gds0 => rfl)
    (case gdv0_0 => k_is)
    (case gdv0_1 => k_is)
    (case gdv0_2 => k_is)
    (case gdv0_3 => k_is)
    (case gdv0_4 => k_is)
    (case gdv0_5 => k_is)
    (case gdv0_6 => k_is)
    (case gdv0_7 => k_is)
#print axioms PySem.Challenge.cw_loopforms_k05_programs_made_holds
