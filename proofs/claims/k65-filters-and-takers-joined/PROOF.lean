import PyProof.Rows.All
import Wide.All
import OpenK.AllK
import Wide.FinOn
import KE.RegKIsAll
import HandS.Base
import HandS.Call
import HandS.List
import HandS.Comp
import HandS.Exc
import HandS.ExcOwn
import HandS.TryOnly
import HandS.CallSlots
import HandS.Dict
import HandS.Iter
import HandS.Text
import HandS.Deep
import HandS.Words
import HandS.WordsExc
import KE.KeyNested
import KE.KDictKeyed
import KE.KDictDisplayH
import HandS.TupAny
import HandS.Small
import HandS.Ends
import HandS.EndBits
import HandS.Defaults
import HandS.IsInst
import HandS.CallRecv
import HandS.ExcInit
import HandS.TupMul
import HandS.Style
import PyProof.ReprRoads
import HandS.More
import PyProof.InstNe
import KE.KDictZip
import KE.GoesZip
import KE.GoesMore
import HandS.GenList
import HandS.MapJoin
import HandS.RaiseMore
import KE.GoesEnum
import HandS.Rev
import HandS.Strs
import HandS.SetFor
import PyProof.ReprLen
import PySem.Challenge.RW_loopforms_k65_filters_and_takers_joined
set_option Elab.async false
set_option autoImplicit false
set_option linter.all false
set_option maxRecDepth 100000
/-! L3: a clean layer over HandS. Data are trees (tuples have no address), only what changes has an address. -/
namespace L3
open PySem L2

/-- data: tuples are trees; lists, dicts, instances, defs are at addresses -/
inductive D where
  | non | bl (b : Bool) | int (i : Int) | str (x : Str) | ty (n : String) | tup (xs : List D) | rls (xs : List D) | ref (a : Addr)

/-- what stands at an address: a list, a dict, an instance (of the class numbered c). (D.rls: a list that is only read: the script) -/
inductive CO where
  | lst (xs : List D)
  | dic (kvs : List (Key × D))
  | dtk (kvs : List (NestedKey × D))
  | ins (c : Nat) (fs : List (Str × D))

abbrev CH := Addr → Option CO
def cup (C : CH) (a : Addr) (o : CO) : CH := fun b => if b = a then some o else C b
theorem cup_same {C : CH} {a : Addr} {o : CO} : cup C a o a = some o := by unfold cup; rw [if_pos rfl]
theorem cup_ne {C : CH} {a b : Addr} {o : CO} (h : b ≠ a) : cup C a o b = C b := by unfold cup; rw [if_neg h]
theorem cup_cup {C : CH} {a : Addr} {o u : CO} : cup (cup C a o) a u = cup C a u := by
  funext b; unfold cup; split <;> rfl

/-- an exception: its class's number, its own attributes -/
structure Exn where
  cls : Nat
  fs : List (Str × D) := []

abbrev Env3 := List (Option D)
abbrev Kv := D → CH → Prop
abbrev Kx := Exn → CH → Prop
abbrev Kxs := Exn → Env3 → CH → Prop
abbrev CTE := Env3 → CH → Kv → Prop
abbrev CTT := Env3 → CH → (Bool → CH → Prop) → Prop
abbrev CTA := Env3 → CH → (List D → CH → Prop) → Prop

/-- the law's classes, its program, its world -/
structure ClsT where
  f : Nat → Option Addr
  P : Program
  w : World
instance : CoeFun ClsT fun _ => Nat → Option Addr := ⟨ClsT.f⟩
/-! data as the key of a dict -/
mutual
def keyT : D → Option NestedKey
  | .non => some .none
  | .bl b => some (.num (if b = true then 1 else 0))
  | .int i => some (.num i)
  | .str x => some (.text x)
  | .tup ds => match keysT ds with
    | some ks => some (.tup ks)
    | none => none
  | _ => none
def keysT : List D → Option (List NestedKey)
  | [] => some []
  | d :: ds => match keyT d, keysT ds with
    | some k, some ks => some (k :: ks)
    | _, _ => none
end
/-- a dict whose keys are tuples stands at a: its entries (the keys' own objects aside) -/
def DRaw (P : Program) (w : World) (h : Heap) (a : Addr) (xs : List (NestedKey × Addr × Value)) : Prop := xs.length ≤ sizeLine ∧ (a == sysModules) = false ∧
  ∃ o es ep, h.get? a = some o ∧ o.ExactDict ∧ o.data = .dict es ep ∧ es.toList = xs.map (entryOfKey (nestedKind P w)) ∧ (xs.map (·.1)).Nodup
abbrev DTO (cl : ClsT) (a : Addr) (xs : List (NestedKey × Addr × Value)) : HO := .ext fun h => DRaw cl.P cl.w h a xs
/-- a list that nobody writes: known to the object, or of the module -/
def RlS (K : PySem.W.Frag) (H : Hp) (a : Addr) (xs : List V) : Prop := (∃ o, H a = some (.frz o (.lst xs))) ∨
  ∃ (o : Obj) (its : Array Value) (n : Nat), K.lookup a = some o ∧ o.cls = .type "list" ∧ o.dict = none ∧ o.data = .seq its n ∧ its.size ≤ sizeLine ∧ Vals xs its.toList
section
variable (K : PySem.W.Frag) (cl : ClsT)
mutual
inductive Rep (H : Hp) : D → V → Prop
  | non : Rep H .non .non
  | bl (b : Bool) : Rep H (.bl b) (.bl b)
  | int (i : Int) : Rep H (.int i) (.int i)
  | str (x : Str) : Rep H (.str x) (.str x)
  | ty (n : String) : Rep H (.ty n) (.ty n)
  | ref (a : Addr) : Rep H (.ref a) (.ref a)
  | tup {a : Addr} {vs : List V} {ds : List D} : SqT K H a vs → RepL H ds vs → Rep H (.tup ds) (.ref a)
  | rls {a : Addr} {vs : List V} {ds : List D} : RlS K H a vs → RepL H ds vs → Rep H (.rls ds) (.ref a)
inductive RepL (H : Hp) : List D → List V → Prop
  | nil : RepL H [] []
  | cons {d : D} {ds : List D} {v : V} {vs : List V} : Rep H d v → RepL H ds vs → RepL H (d :: ds) (v :: vs)
end
/-- slots -/
inductive RepS (H : Hp) : Env3 → St → Prop
  | nil : RepS H [] []
  | no {σc : Env3} {σ : St} : RepS H σc σ → RepS H (none :: σc) (none :: σ)
  | so {d : D} {v : V} {σc : Env3} {σ : St} : Rep K H d v → RepS H σc σ → RepS H (some d :: σc) (some v :: σ)
/-- pairs by a key -/
inductive RepF {κ : Type} (H : Hp) : List (κ × D) → List (κ × V) → Prop
  | nil : RepF H [] []
  | cons {k : κ} {d : D} {v : V} {ds : List (κ × D)} {vs : List (κ × V)} : Rep K H d v → RepF H ds vs → RepF H ((k, d) :: ds) ((k, v) :: vs)
/-- the entries of such a dict: key, the key's object, value -/
inductive RepK (H : Hp) : List (NestedKey × D) → List (NestedKey × Addr × Value) → Prop
  | nil : RepK H [] []
  | cons {k : NestedKey} {t d : D} {b : Addr} {v : V} {u : Value} {ds : List (NestedKey × D)} {xs : List (NestedKey × Addr × Value)} : keyT t = some k → k.depth ≤ 8 → Rep K H t (.ref b) → Rep K H d v → RelV v u → RepK H ds xs → RepK H ((k, d) :: ds) ((k, b, u) :: xs)
def OkO (H : Hp) (a : Addr) : CO → Prop
  | .lst ds => ∃ vs, H a = some (.lst vs) ∧ RepL K H ds vs
  | .dic ds => ∃ vs, H a = some (.dK vs) ∧ RepF K H ds vs
  | .dtk ds => ∃ xs, H a = some (DTO cl a xs) ∧ RepK K H ds xs
  | .ins c ds => ∃ Ca dx vs, cl c = some Ca ∧ H a = some (.ins Ca dx vs) ∧ RepF K H ds vs
def Rel (H : Hp) (C : CH) : Prop := ∀ a o, C a = some o → OkO K cl H a o
end
/-- what the clean heap does not speak of stands as it was -/
def Keep (H : Hp) (C : CH) (H' : Hp) (C' : CH) : Prop := ∀ b o, H b = some o → C b = none → H' b = some o ∧ C' b = none
theorem Keep.refl {H : Hp} {C : CH} : Keep H C H C := fun _ _ h n => ⟨h, n⟩
theorem Keep.trans {H H1 H2 : Hp} {C C1 C2 : CH} (k : Keep H C H1 C1) (l : Keep H1 C1 H2 C2) : Keep H C H2 C2 := fun b o h n =>
  let ⟨h1, n1⟩ := k b o h n
  l b o h1 n1

section
variable {K : PySem.W.Frag} {cl : ClsT} {H H' H1 : Hp} {C C' C1 : CH}
theorem RepL.length : ∀ {ds : List D} {vs : List V}, RepL K H ds vs → ds.length = vs.length
  | _, _, .nil => rfl
  | _, _, .cons _ t => congrArg (· + 1) t.length
theorem RepL.get : ∀ {ds : List D} {vs : List V} {i : Nat} {d : D}, RepL K H ds vs → ds[i]? = some d → ∃ v, vs[i]? = some v ∧ Rep K H d v
  | _, _, _, _, .nil, e => by simp at e
  | _, _, 0, _, .cons r _, e => by simp at e; subst e; exact ⟨_, rfl, r⟩
  | _, _, i + 1, d, .cons _ t, e => by
    obtain ⟨u, h1, h2⟩ := RepL.get (i := i) (d := d) t (by simpa using e)
    exact ⟨u, by simpa using h1, h2⟩
theorem RepL.append : ∀ {ds es : List D} {vs us : List V}, RepL K H ds vs → RepL K H es us → RepL K H (ds ++ es) (vs ++ us)
  | _, _, _, _, .nil, t => t
  | _, _, _, _, .cons r s, t => .cons r (RepL.append s t)
theorem RepL.set {d : D} {v : V} (r : Rep K H d v) : ∀ {ds : List D} {vs : List V} (i : Nat), RepL K H ds vs → RepL K H (ds.set i d) (vs.set i v)
  | _, _, _, .nil => .nil
  | _, _, 0, .cons _ t => .cons r t
  | _, _, i + 1, .cons q t => .cons q (RepL.set r i t)
theorem RepL.take : ∀ {ds : List D} {vs : List V} (n : Nat), RepL K H ds vs → RepL K H (ds.take n) (vs.take n)
  | _, _, 0, _ => .nil
  | _, _, _ + 1, .nil => .nil
  | _, _, n + 1, .cons r t => .cons r (RepL.take n t)
theorem RepL.drop : ∀ {ds : List D} {vs : List V} (n : Nat), RepL K H ds vs → RepL K H (ds.drop n) (vs.drop n)
  | _, _, 0, r => r
  | _, _, _ + 1, .nil => .nil
  | _, _, n + 1, .cons _ t => RepL.drop n t
theorem RepL.dropLast : ∀ {ds : List D} {vs : List V}, RepL K H ds vs → RepL K H ds.dropLast vs.dropLast
  | _, _, .nil => .nil
  | _, _, .cons _ .nil => .nil
  | _, _, .cons r (.cons q t) => .cons r (RepL.dropLast (.cons q t))
theorem RepL.eraseIdx : ∀ {ds : List D} {vs : List V} (i : Nat), RepL K H ds vs → RepL K H (ds.eraseIdx i) (vs.eraseIdx i)
  | _, _, _, .nil => .nil
  | _, _, 0, .cons _ t => t
  | _, _, i + 1, .cons r t => .cons r (RepL.eraseIdx i t)
theorem RepL.reverse {ds : List D} {vs : List V} (h : RepL K H ds vs) : RepL K H ds.reverse vs.reverse := by
  have go : ∀ {ds es : List D} {vs us : List V}, RepL K H ds vs → RepL K H es us → RepL K H (ds.reverseAux es) (vs.reverseAux us) := by
    intro ds
    induction ds with
    | nil => intro es vs us h t; cases h; exact t
    | cons d ds ih =>
      intro es vs us h t
      cases h with
      | cons r s => exact (show RepL K H (List.reverseAux _ (_ :: _)) (List.reverseAux _ (_ :: _)) from ih s (.cons r t))
  exact go h .nil
theorem RepS.length : ∀ {σc : Env3} {σ : St}, RepS K H σc σ → σc.length = σ.length
  | _, _, .nil => rfl
  | _, _, .no t => congrArg (· + 1) t.length
  | _, _, .so _ t => congrArg (· + 1) t.length
theorem RepS.get : ∀ {σc : Env3} {σ : St} {i : Nat} {d : D}, RepS K H σc σ → σc[i]? = some (some d) → ∃ v, σ[i]? = some (some v) ∧ Rep K H d v
  | _, _, _, _, .nil, e => by simp at e
  | _, _, 0, _, .no _, e => by simp at e
  | _, _, 0, _, .so r _, e => by simp at e; subst e; exact ⟨_, rfl, r⟩
  | _, _, i + 1, d, .no t, e => by
    obtain ⟨u, h1, h2⟩ := RepS.get (i := i) (d := d) t (by simpa using e)
    exact ⟨u, by simpa using h1, h2⟩
  | _, _, i + 1, d, .so _ t, e => by
    obtain ⟨u, h1, h2⟩ := RepS.get (i := i) (d := d) t (by simpa using e)
    exact ⟨u, by simpa using h1, h2⟩
theorem RepS.set {d : D} {v : V} (r : Rep K H d v) : ∀ {σc : Env3} {σ : St} (i : Nat), RepS K H σc σ → RepS K H (σc.set i (some d)) (σ.set i (some v))
  | _, _, _, .nil => .nil
  | _, _, 0, .no t => .so r t
  | _, _, 0, .so _ t => .so r t
  | _, _, i + 1, .no t => .no (RepS.set r i t)
  | _, _, i + 1, .so q t => .so q (RepS.set r i t)
theorem RepS.wipe1 : ∀ {σc : Env3} {σ : St} (i : Nat), RepS K H σc σ → RepS K H (σc.set i none) (σ.set i none)
  | _, _, _, .nil => .nil
  | _, _, 0, .no t => .no t
  | _, _, 0, .so _ t => .no t
  | _, _, i + 1, .no t => .no (RepS.wipe1 i t)
  | _, _, i + 1, .so q t => .so q (RepS.wipe1 i t)
theorem RepF.lookup {ds : List (Str × D)} {vs : List (Str × V)} {f : Str} {d : D} (h : RepF K H ds vs) (e : ds.lookup f = some d) : ∃ v, vs.lookup f = some v ∧ Rep K H d v := by
  induction h with
  | nil => simp at e
  | @cons k d' v' ds' vs' r t ih =>
    rw [List.lookup_cons] at e ⊢
    cases hb : f == k with
    | true => rw [hb] at e; simp at e; subst e; exact ⟨v', rfl, r⟩
    | false => rw [hb] at e; exact ih e
theorem RepF.lookup_none {ds : List (Str × D)} {vs : List (Str × V)} {f : Str} (h : RepF K H ds vs) (e : ds.lookup f = none) : vs.lookup f = none := by
  induction h with
  | nil => rfl
  | @cons k d' v' ds' vs' r t ih =>
    rw [List.lookup_cons] at e ⊢
    cases hb : f == k with
    | true => rw [hb] at e; simp at e
    | false => rw [hb] at e; exact ih e
theorem RepF.length {κ : Type} : ∀ {ds : List (κ × D)} {vs : List (κ × V)}, RepF K H ds vs → ds.length = vs.length
  | _, _, .nil => rfl
  | _, _, .cons _ t => congrArg (· + 1) t.length

theorem Rel.noTup (R : Rel K cl H C) {a : Addr} {xs : List V} (h : Rd H a (.tup xs)) : C a = none := by
  cases e : C a with
  | none => rfl
  | some o =>
    have q := R a o e
    cases o with
    | lst ds =>
      obtain ⟨vs, hl, _⟩ := q
      rcases h with h | ⟨u, h⟩ <;> (rw [hl] at h; cases h)
    | dic ds =>
      obtain ⟨vs, hl, _⟩ := q
      rcases h with h | ⟨u, h⟩ <;> (rw [hl] at h; cases h)
    | dtk ds =>
      obtain ⟨vs, hl, _⟩ := q
      rcases h with h | ⟨u, h⟩ <;> (rw [hl] at h; cases h)
    | ins c ds =>
      obtain ⟨_, _, vs, _, hl, _⟩ := q
      rcases h with h | ⟨u, h⟩ <;> (rw [hl] at h; cases h)
theorem Rel.noFrz (R : Rel K cl H C) {a : Addr} {o : Obj} {u : HO} (h : H a = some (.frz o u)) : C a = none := by
  cases e : C a with
  | none => rfl
  | some w =>
    have q := R a w e
    cases w with
    | lst ds => obtain ⟨vs, hl, _⟩ := q; rw [hl] at h; cases h
    | dic ds => obtain ⟨vs, hl, _⟩ := q; rw [hl] at h; cases h
    | dtk ds => obtain ⟨vs, hl, _⟩ := q; rw [hl] at h; cases h
    | ins c ds => obtain ⟨_, _, vs, _, hl, _⟩ := q; rw [hl] at h; cases h
theorem RlS.keep (R : Rel K cl H C) (k : Keep H C H' C') {a : Addr} {xs : List V} (h : RlS K H a xs) : RlS K H' a xs := by
  rcases h with ⟨o, h⟩ | h
  · exact .inl ⟨o, (k _ _ h (R.noFrz h)).1⟩
  · exact .inr h
theorem RlS.sq {a : Addr} {xs : List V} (h : RlS K H a xs) : SqL K H a xs := by
  rcases h with ⟨o, h⟩ | h
  · exact .inl (.inr ⟨o, h⟩)
  · exact .inr h
theorem SqT.keep (R : Rel K cl H C) (k : Keep H C H' C') {a : Addr} {xs : List V} (h : SqT K H a xs) : SqT K H' a xs := by
  rcases h with h | h
  · have n := R.noTup h
    rcases h with h | ⟨o, h⟩
    · exact .inl (.inl (k _ _ h n).1)
    · exact .inl (.inr ⟨o, (k _ _ h n).1⟩)
  · exact .inr h
mutual
theorem Rep.keep (R : Rel K cl H C) (k : Keep H C H' C') : ∀ {d : D} {v : V}, Rep K H d v → Rep K H' d v
  | _, _, .non => .non
  | _, _, .bl b => .bl b
  | _, _, .int b => .int b
  | _, _, .str b => .str b
  | _, _, .ty b => .ty b
  | _, _, .ref b => .ref b
  | _, _, .tup s t => .tup (SqT.keep R k s) (RepL.keep R k t)
  | _, _, .rls s t => .rls (RlS.keep R k s) (RepL.keep R k t)
theorem RepL.keep (R : Rel K cl H C) (k : Keep H C H' C') : ∀ {d : List D} {v : List V}, RepL K H d v → RepL K H' d v
  | _, _, .nil => .nil
  | _, _, .cons r t => .cons (Rep.keep R k r) (RepL.keep R k t)
end
theorem RepS.keep (R : Rel K cl H C) (k : Keep H C H' C') : ∀ {d : Env3} {v : St}, RepS K H d v → RepS K H' d v
  | _, _, .nil => .nil
  | _, _, .no t => .no (RepS.keep R k t)
  | _, _, .so r t => .so (r.keep R k) (RepS.keep R k t)
theorem RepF.keep {κ : Type} (R : Rel K cl H C) (k : Keep H C H' C') : ∀ {d : List (κ × D)} {v : List (κ × V)}, RepF K H d v → RepF K H' d v
  | _, _, .nil => .nil
  | _, _, .cons r t => .cons (r.keep R k) (RepF.keep R k t)

theorem RepK.keep (R : Rel K cl H C) (k : Keep H C H' C') : ∀ {d : List (NestedKey × D)} {v : List (NestedKey × Addr × Value)}, RepK K H d v → RepK K H' d v
  | _, _, .nil => .nil
  | _, _, .cons e z t r q rs => .cons e z (t.keep R k) (r.keep R k) q (RepK.keep R k rs)
theorem RepK.length : ∀ {ds : List (NestedKey × D)} {xs : List (NestedKey × Addr × Value)}, RepK K H ds xs → ds.length = xs.length
  | _, _, .nil => rfl
  | _, _, .cons _ _ _ _ _ t => congrArg (· + 1) t.length

/-- the clean heap is a part of another one -/
def Sub (C C' : CH) : Prop := ∀ a o, C a = some o → C' a = some o
theorem Sub.refl {C : CH} : Sub C C := fun _ _ h => h
theorem Sub.trans {C C1 C2 : CH} (a : Sub C C1) (b : Sub C1 C2) : Sub C C2 := fun c o h => b c o (a c o h)
theorem Sub.new {C : CH} {p : Addr} {o : CO} (h : C p = none) : Sub C (cup C p o) := fun a u e => by
  rw [cup_ne (by intro z; rw [z, h] at e; cases e)]; exact e
theorem Rel.sub (R : Rel K cl H C) (s : Sub C' C) : Rel K cl H C' := fun a o e => R a o (s a o e)
theorem Keep.sub (k : Keep H C H' C1) (s : Sub C' C1) : Keep H C H' C' := fun b o h n =>
  let ⟨h1, n1⟩ := k b o h n
  ⟨h1, by
    cases e : C' b with
    | none => rfl
    | some u => rw [s b u e] at n1; cases n1⟩

/-- a new object in H that the clean heap does not know (a tuple, the dict of an instance ..) -/
theorem free_of (R : Rel K cl H C) {p : Addr} (h : H p = none) : C p = none := by
  cases e : C p with
  | none => rfl
  | some o =>
    have q := R p o e
    cases o with
    | lst ds => obtain ⟨vs, hl, _⟩ := q; rw [h] at hl; cases hl
    | dic ds => obtain ⟨vs, hl, _⟩ := q; rw [h] at hl; cases hl
    | dtk ds => obtain ⟨vs, hl, _⟩ := q; rw [h] at hl; cases hl
    | ins c ds => obtain ⟨_, _, vs, _, hl, _⟩ := q; rw [h] at hl; cases hl
end
end L3

namespace L3
open PySem L2

structure EndsC where
  nx : Env3 → CH → Prop
  rt : Kv
  bk : Env3 → CH → Prop := fun _ _ => False
  ct : Env3 → CH → Prop := fun _ _ => False
abbrev CTS := EndsC → Env3 → CH → Prop

structure S3 (K : PySem.W.Frag) (cl : ClsT) (H0 : Hp) (C0 : CH) (σ : St) (H : Hp) (σc : Env3) (C : CH) : Prop where
  s : RepS K H σc σ
  r : Rel K cl H C
  f : Keep H0 C0 H C
theorem S3.step {K : PySem.W.Frag} {cl : ClsT} {H0 H H' : Hp} {C0 C C' : CH} {σ : St} {σc : Env3} (S : S3 K cl H0 C0 σ H σc C) (k : Keep H C H' C') (r : Rel K cl H' C') : S3 K cl H0 C0 σ H' σc C' :=
  ⟨S.s.keep S.r k, r, S.f.trans k⟩

section
variable (K : PySem.W.Frag) (cl : ClsT) (H0 : Hp) (C0 : CH)
def EndE (H : Hp) (C : CH) (Qc : Kv) (Q : VK) : Prop := ∀ d C' v H', Qc d C' → Rep K H' d v → Rel K cl H' C' → Keep H C H' C' → Q v H'
def EndT (H : Hp) (C : CH) (Qc : Bool → CH → Prop) (Q : Bool → Hp → Prop) : Prop := ∀ b C' H', Qc b C' → Rel K cl H' C' → Keep H C H' C' → Q b H'
def EndA (H : Hp) (C : CH) (Qc : List D → CH → Prop) (Q : List V → Hp → Prop) : Prop := ∀ ds C' vs H', Qc ds C' → RepL K H' ds vs → Rel K cl H' C' → Keep H C H' C' → Q vs H'
def EndN (H : Hp) (C : CH) (Qc : Env3 → CH → Prop) (Q : St → Hp → Prop) : Prop := ∀ σc C' σ H', Qc σc C' → RepS K H' σc σ → Rel K cl H' C' → Keep H C H' C' → Q σ H'
structure EndS (H : Hp) (C : CH) (Dc : EndsC) (D : Ends) : Prop where
  nx : EndN K cl H C Dc.nx D.nx
  rt : EndE K cl H C Dc.rt D.rt
  bk : EndN K cl H C Dc.bk D.bk
  ct : EndN K cl H C Dc.ct D.ct
def tE (c : CTE) : TE := fun σ H Q => ∃ σc C Qc, S3 K cl H0 C0 σ H σc C ∧ c σc C Qc ∧ EndE K cl H C Qc Q
def tT (c : CTT) : TT := fun σ H Q => ∃ σc C Qc, S3 K cl H0 C0 σ H σc C ∧ c σc C Qc ∧ EndT K cl H C Qc Q
def tA (c : CTA) : TA := fun σ H Q => ∃ σc C Qc, S3 K cl H0 C0 σ H σc C ∧ c σc C Qc ∧ EndA K cl H C Qc Q
def tS (c : CTS) : TS := fun D σ H => ∃ σc C Dc, S3 K cl H0 C0 σ H σc C ∧ c Dc σc C ∧ EndS K cl H C Dc D
def XRel (H : Hp) (x : Exn) (cls : Value) (d : Option Addr) : Prop := ∃ Ca, cl x.cls = some Ca ∧ cls = .ref Ca ∧ ((d = none ∧ x.fs = []) ∨ ∃ a fs, d = some a ∧ H a = some (.xd fs) ∧ RepF K H x.fs fs)
/-- the wish of a context -/
def WC (ex : Kxs) : WX := fun cls d σ H => ∃ x σc C, ex x σc C ∧ XRel K cl H x cls d ∧ S3 K cl H0 C0 σ H σc C
end
section
variable {K : PySem.W.Frag} {cl : ClsT} {H H1 H2 : Hp} {C C1 C2 : CH}
theorem EndE.from_ {Qc : Kv} {Q : VK} (h : EndE K cl H C Qc Q) (k : Keep H C H1 C1) : EndE K cl H1 C1 Qc Q := fun d C' v H' q r R k' => h d C' v H' q r R (k.trans k')
theorem EndN.from_ {Qc : Env3 → CH → Prop} {Q : St → Hp → Prop} (h : EndN K cl H C Qc Q) (k : Keep H C H1 C1) : EndN K cl H1 C1 Qc Q := fun d C' v H' q r R k' => h d C' v H' q r R (k.trans k')
theorem EndS.from_ {Dc : EndsC} {D : Ends} (h : EndS K cl H C Dc D) (k : Keep H C H1 C1) : EndS K cl H1 C1 Dc D := ⟨h.nx.from_ k, h.rt.from_ k, h.bk.from_ k, h.ct.from_ k⟩
theorem EndE.now {Qc : Kv} {Q : VK} {d : D} {v : V} (h : EndE K cl H C Qc Q) (q : Qc d C) (r : Rep K H d v) (R : Rel K cl H C) : Q v H := h d C v H q r R Keep.refl
end

theorem _root_.L2.PE.imp {X : Cx} {e : Expr} {t t' : TE} (h : PE X e t) (i : ∀ σ H Q, t' σ H Q → t σ H Q) : PE X e t' := ⟨fun pins s σ H Q I q => h.run pins s σ H Q I (i _ _ _ q)⟩
theorem _root_.L2.PT.imp {X : Cx} {e : Expr} {t t' : TT} (h : PT X e t) (i : ∀ σ H Q, t' σ H Q → t σ H Q) : PT X e t' := ⟨fun pins s σ H Q I q => h.run pins s σ H Q I (i _ _ _ q)⟩
theorem _root_.L2.PW.imp {X : Cx} {e : Expr} {t t' : TT} (h : PW X e t) (i : ∀ σ H Q, t' σ H Q → t σ H Q) : PW X e t' := ⟨fun wh pins s σ H Q I q => h.run wh pins s σ H Q I (i _ _ _ q)⟩
theorem _root_.L2.PA.imp {X : Cx} {es : List Expr} {t t' : TA} (h : PA X es t) (i : ∀ σ H Q, t' σ H Q → t σ H Q) : PA X es t' := ⟨fun p pins s σ H Q I q => h.run p pins s σ H Q I (i _ _ _ q)⟩
theorem _root_.L2.PS.imp {X : Cx} {st : Stmt} {t t' : TS} (h : PS X st t) (i : ∀ D σ H, t' D σ H → t D σ H) : PS X st t' := ⟨fun pins s σ H D I q => h.run pins s σ H D I (i _ _ _ q)⟩
theorem _root_.L2.PSs.imp {X : Cx} {st : List Stmt} {t t' : TS} (h : PSs X st t) (i : ∀ D σ H, t' D σ H → t D σ H) : PSs X st t' := ⟨fun pins s σ H D I q => h.run pins s σ H D I (i _ _ _ q)⟩

section
variable (X : Cx) (cl : ClsT) (H0 : Hp) (C0 : CH)
def CPE (e : Expr) (c : CTE) : Prop := PE X e (tE X.K cl H0 C0 c)
def CPT (e : Expr) (c : CTT) : Prop := PT X e (tT X.K cl H0 C0 c)
def CPW (e : Expr) (c : CTT) : Prop := PW X e (tT X.K cl H0 C0 c)
def CPA (e : List Expr) (c : CTA) : Prop := PA X e (tA X.K cl H0 C0 c)
def CPS (e : Stmt) (c : CTS) : Prop := PS X e (tS X.K cl H0 C0 c)
def CPSs (e : List Stmt) (c : CTS) : Prop := PSs X e (tS X.K cl H0 C0 c)
end

/-! ### expressions -/
def cVar (i : Nat) : CTE := fun σ C Q => ∃ d, σ[i]? = some (some d) ∧ Q d C
def cC (d : D) : CTE := fun _ C Q => Q d C
abbrev O2 := D → D → CH → Kv → Prop
abbrev O1 := D → CH → Kv → Prop
abbrev OL := List D → CH → Kv → Prop
def cBin (o : O2) (a b : CTE) : CTE := fun σ C Q => a σ C fun d C1 => b σ C1 fun e C2 => o d e C2 Q
def cUn (o : O1) (a : CTE) : CTE := fun σ C Q => a σ C fun d C1 => o d C1 Q
def cList (o : OL) (a : CTA) : CTE := fun σ C Q => a σ C fun ds C1 => o ds C1 Q
section
variable (K : PySem.W.Frag) (cl : ClsT)
/-- a rule by values over V is met by a clean one -/
def Lk2 (r : R2) (o : O2) : Prop := ∀ H C d e v u Q Qc, Rep K H d v → Rep K H e u → Rel K cl H C → o d e C Qc → EndE K cl H C Qc Q → r v u H Q
def Lk1 (r : V → Hp → VK → Prop) (o : O1) : Prop := ∀ H C d v Q Qc, Rep K H d v → Rel K cl H C → o d C Qc → EndE K cl H C Qc Q → r v H Q
def LkL (r : List V → Hp → VK → Prop) (o : OL) : Prop := ∀ H C ds vs Q Qc, RepL K H ds vs → Rel K cl H C → o ds C Qc → EndE K cl H C Qc Q → r vs H Q
end
section
variable {X : Cx} {cl : ClsT} {H0 : Hp} {C0 : CH} {a b c e : Expr} {es : List Expr} {ca cb cc : CTE} {pos : Pos}
theorem cpe_var {i : Nat} {x : Str} (hN : X.N[i]? = some x) (hv : Vis X.env.scope x) (hd : (x == ("__debug__" : Str)) = false) (hcd : (x == ("__classdict__" : Str)) = false) : CPE X cl H0 C0 (.Name x pos) (cVar i) :=
  (pe_var hN hv hd hcd).imp fun σ H Q ⟨σc, C, Qc, S, ⟨d, e, q⟩, hq⟩ => by
    obtain ⟨v, h1, h2⟩ := S.s.get e
    exact ⟨v, h1, hq.now q h2 S.r⟩
theorem tC_of {d : D} {v : V} (r : ∀ H, Rep X.K H d v) : ∀ σ H Q, tE X.K cl H0 C0 (cC d) σ H Q → tC v σ H Q := fun σ H Q ⟨σc, C, Qc, S, q, hq⟩ => hq.now q (r H) S.r
theorem cpe_int {i : Int} {j : Nat} : CPE X cl H0 C0 (.Constant (.int i) j pos) (cC (.int i)) := pe_int.imp (tC_of fun _ => .int i)
theorem cpe_bl {i : Bool} {j : Nat} : CPE X cl H0 C0 (.Constant (.bool i) j pos) (cC (.bl i)) := pe_bl.imp (tC_of fun _ => .bl i)
theorem cpe_non {j : Nat} : CPE X cl H0 C0 (.Constant .none j pos) (cC .non) := pe_non.imp (tC_of fun _ => .non)
theorem cpe_str {i : Str} {j : Nat} : CPE X cl H0 C0 (.Constant (.str i) j pos) (cC (.str i)) := pe_str.imp (tC_of fun _ => .str i)
theorem cpe_glob {x : Str} {d : D} {v : V} {u : Value} (hg : Gl X x) (hm : X.mg x = some u) (r : RelV v u) (rd : ∀ H, Rep X.K H d v) (hd : (x == ("__debug__" : Str)) = false) : CPE X cl H0 C0 (.Name x pos) (cC d) :=
  (pe_glob hg hm r hd).imp (tC_of rd)
theorem cpe_bin {op : Operator} {r : R2} {o : O2} (ho : OpR X (binaryOp op) r) (l : Lk2 X.K cl r o) (ha : CPE X cl H0 C0 a ca) (hb : CPE X cl H0 C0 b cb) : CPE X cl H0 C0 (.BinOp a op b pos) (cBin o ca cb) :=
  (pe_op ho ha hb).imp fun σ H Q ⟨σc, C, Qc, S, h, hq⟩ => ⟨σc, C, _, S, h, fun d C1 v H1 h1 rv R1 k1 => ⟨σc, C1, _, S.step k1 R1, h1, fun e C2 u H2 h2 ru R2 k2 =>
    l H2 C2 d e v u Q Qc (rv.keep R1 k2) ru R2 h2 ((hq.from_ k1).from_ k2)⟩⟩
theorem tOp_of {r : R2} {o : O2} {ta tb : TE} (l : Lk2 X.K cl r o) : ∀ σ H Q, tE X.K cl H0 C0 (cBin o ca cb) σ H Q → tOp r (tE X.K cl H0 C0 ca) (tE X.K cl H0 C0 cb) σ H Q :=
  fun σ H Q ⟨σc, C, Qc, S, h, hq⟩ => ⟨σc, C, _, S, h, fun d C1 v H1 h1 rv R1 k1 => ⟨σc, C1, _, S.step k1 R1, h1, fun e C2 u H2 h2 ru R2 k2 =>
    l H2 C2 d e v u Q Qc (rv.keep R1 k2) ru R2 h2 ((hq.from_ k1).from_ k2)⟩⟩
theorem cpe_un {op : UnaryOp} {r : V → Hp → VK → Prop} {o : O1} (ho : UnR X (unaryOp op) r) (l : Lk1 X.K cl r o) (ha : CPE X cl H0 C0 a ca) : CPE X cl H0 C0 (.UnaryOp op a pos) (cUn o ca) :=
  (pe_un ho ha).imp fun σ H Q ⟨σc, C, Qc, S, h, hq⟩ => ⟨σc, C, _, S, h, fun d C1 v H1 h1 rv R1 k1 => l H1 C1 d v Q Qc rv R1 h1 (hq.from_ k1)⟩
theorem cpe_cmp {op : CmpOp} {r : R2} {o : O2} (ho : OpR X (compareOp op) r) (l : Lk2 X.K cl r o) (ha : CPE X cl H0 C0 a ca) (hb : CPE X cl H0 C0 b cb) (hm : behindInMarks op b = false) : CPE X cl H0 C0 (.Compare a [op] [b] pos) (cBin o ca cb) :=
  (pe_cmpR ho ha hb hm).imp (tOp_of (ta := tE X.K cl H0 C0 ca) (tb := tE X.K cl H0 C0 cb) l)
/-- a value that is a bool, as a test -/
def cTst (c : CTE) : CTT := fun σ C Q => c σ C fun d C1 => ∃ b, d = .bl b ∧ Q b C1
theorem rep_bl {H : Hp} {b : Bool} {v : V} {K : PySem.W.Frag} (h : Rep K H (.bl b) v) : v = .bl b := by cases h; rfl
theorem cpt_cmp {op : CmpOp} {r : R2} {o : O2} (ho : OpR X (compareOp op) r) (l : Lk2 X.K cl r o) (ha : CPE X cl H0 C0 a ca) (hb : CPE X cl H0 C0 b cb) (hm : behindInMarks op b = false) : CPT X cl H0 C0 (.Compare a [op] [b] pos) (cTst (cBin o ca cb)) :=
  (pt_cmpR ho ha hb hm).imp fun σ H Q ⟨σc, C, Qc, S, h, hq⟩ => ⟨σc, C, _, S, h, fun d C1 v H1 h1 rv R1 k1 => ⟨σc, C1, _, S.step k1 R1, h1, fun e C2 u H2 h2 ru R2 k2 =>
    l H2 C2 d e v u _ _ (rv.keep R1 k2) ru R2 h2 fun z C3 w H3 h3 rz R3 k3 => by
      obtain ⟨b, rfl, q⟩ := h3
      cases rz
      exact ⟨b, rfl, hq b C3 H3 q R3 ((k1.trans k2).trans k3)⟩⟩⟩
theorem cpt_val (ha : CPE X cl H0 C0 a ca) (he : ∀ whole, isTrue a X.env whole = (do let v ← whole; standAt a.pos; holding [v] (truthy v))) : CPT X cl H0 C0 a (cTst ca) :=
  (pt_val ha he).imp fun σ H Q ⟨σc, C, Qc, S, h, hq⟩ => ⟨σc, C, _, S, h, fun z C1 w H1 h1 rz R1 k1 => by
      obtain ⟨b, rfl, q⟩ := h1
      cases rz
      exact ⟨b, rfl, hq b C1 H1 q R1 k1⟩⟩
def cAnd (a b : CTT) : CTT := fun σ C Q => a σ C fun c C1 => if c = true then b σ C1 Q else Q false C1
def cOr (a b : CTT) : CTT := fun σ C Q => a σ C fun c C1 => if c = true then Q true C1 else b σ C1 Q
def cNot (a : CTT) : CTT := fun σ C Q => a σ C fun c C1 => Q (!c) C1
variable {ka kb : CTT} {rest : List Expr}
theorem EndT.from_ {K : PySem.W.Frag} {H H1 : Hp} {C C1 : CH} {Qc : Bool → CH → Prop} {Q : Bool → Hp → Prop} (h : EndT K cl H C Qc Q) (k : Keep H C H1 C1) : EndT K cl H1 C1 Qc Q := fun d C' H' q R k' => h d C' H' q R (k.trans k')
theorem cpw_and1 (ha : CPT X cl H0 C0 a ka) : CPW X cl H0 C0 (.BoolOp .And [a] pos) ka := pw_and1 ha
theorem cpw_or1 (ha : CPT X cl H0 C0 a ka) : CPW X cl H0 C0 (.BoolOp .Or [a] pos) ka := pw_or1 ha
theorem cpw_and (ha : CPT X cl H0 C0 a ka) (hb : CPW X cl H0 C0 (.BoolOp .And (b :: rest) pos) kb) : CPW X cl H0 C0 (.BoolOp .And (a :: b :: rest) pos) (cAnd ka kb) :=
  (pw_and ha hb).imp fun σ H Q ⟨σc, C, Qc, S, h, hq⟩ => ⟨σc, C, _, S, h, fun z C1 H1 h1 R1 k1 => by
    cases z with
    | true => exact iteT ⟨σc, C1, _, S.step k1 R1, h1, hq.from_ k1⟩
    | false => exact iteF (hq _ _ _ h1 R1 k1)⟩
theorem cpw_or (ha : CPT X cl H0 C0 a ka) (hb : CPW X cl H0 C0 (.BoolOp .Or (b :: rest) pos) kb) : CPW X cl H0 C0 (.BoolOp .Or (a :: b :: rest) pos) (cOr ka kb) :=
  (pw_or ha hb).imp fun σ H Q ⟨σc, C, Qc, S, h, hq⟩ => ⟨σc, C, _, S, h, fun z C1 H1 h1 R1 k1 => by
    cases z with
    | true => exact iteT (hq _ _ _ h1 R1 k1)
    | false => exact iteF ⟨σc, C1, _, S.step k1 R1, h1, hq.from_ k1⟩⟩
theorem CPW.pt (h : CPW X cl H0 C0 a ka) : CPT X cl H0 C0 a ka := L2.PW.pt h
theorem cpt_not (ha : CPT X cl H0 C0 a ka) : CPT X cl H0 C0 (.UnaryOp .Not a pos) (cNot ka) :=
  (pt_not ha).imp fun σ H Q ⟨σc, C, Qc, S, h, hq⟩ => ⟨σc, C, _, S, h, fun z C1 H1 h1 R1 k1 => hq _ _ _ h1 R1 k1⟩
/-- and, or, not as values: all but the last are bools -/
def cAndV (a b : CTE) : CTE := fun σ C Q => a σ C fun d C1 => ∃ c, d = .bl c ∧ if c = true then b σ C1 Q else Q (.bl false) C1
def cOrV (a b : CTE) : CTE := fun σ C Q => a σ C fun d C1 => ∃ c, d = .bl c ∧ if c = true then Q (.bl true) C1 else b σ C1 Q
def cNotV (a : CTE) : CTE := fun σ C Q => a σ C fun d C1 => ∃ c, d = .bl c ∧ Q (.bl (!c)) C1
theorem cpe_one {op} (h : CPE X cl H0 C0 a ca) : CPE X cl H0 C0 (.BoolOp op [a] pos) ca := pe_one h
theorem cpe_and (ha : CPE X cl H0 C0 a ca) (hb : CPE X cl H0 C0 (.BoolOp .And (b :: rest) pos) cb) : CPE X cl H0 C0 (.BoolOp .And (a :: b :: rest) pos) (cAndV ca cb) :=
  (pe_and ha hb).imp fun σ H Q ⟨σc, C, Qc, S, h, hq⟩ => ⟨σc, C, _, S, h, fun z C1 v H1 h1 rz R1 k1 => by
    obtain ⟨c, rfl, h1⟩ := h1
    cases rz
    refine ⟨c, rfl, ?_⟩
    cases c with
    | true => exact iteT ⟨σc, C1, _, S.step k1 R1, h1, hq.from_ k1⟩
    | false => exact iteF (hq _ _ _ _ h1 (.bl _) R1 k1)⟩
theorem cpe_or (ha : CPE X cl H0 C0 a ca) (hb : CPE X cl H0 C0 (.BoolOp .Or (b :: rest) pos) cb) : CPE X cl H0 C0 (.BoolOp .Or (a :: b :: rest) pos) (cOrV ca cb) :=
  (pe_or ha hb).imp fun σ H Q ⟨σc, C, Qc, S, h, hq⟩ => ⟨σc, C, _, S, h, fun z C1 v H1 h1 rz R1 k1 => by
    obtain ⟨c, rfl, h1⟩ := h1
    cases rz
    refine ⟨c, rfl, ?_⟩
    cases c with
    | true => exact iteT (hq _ _ _ _ h1 (.bl _) R1 k1)
    | false => exact iteF ⟨σc, C1, _, S.step k1 R1, h1, hq.from_ k1⟩⟩
theorem cpe_not (ha : CPE X cl H0 C0 a ca) : CPE X cl H0 C0 (.UnaryOp .Not a pos) (cNotV ca) :=
  (pe_not ha).imp fun σ H Q ⟨σc, C, Qc, S, h, hq⟩ => ⟨σc, C, _, S, h, fun z C1 v H1 h1 rz R1 k1 => by
    obtain ⟨c, rfl, h1⟩ := h1
    cases rz
    exact ⟨c, rfl, hq _ _ _ _ h1 (.bl _) R1 k1⟩⟩
def cIf (t : CTT) (a b : CTE) : CTE := fun σ C Q => t σ C fun c C1 => if c = true then a σ C1 Q else b σ C1 Q
theorem cpe_if (ht : CPT X cl H0 C0 c ka) (ha : CPE X cl H0 C0 a ca) (hb : CPE X cl H0 C0 b cb) : CPE X cl H0 C0 (.IfExp c a b pos) (cIf ka ca cb) :=
  (pe_ifExp ht ha hb).imp fun σ H Q ⟨σc, C, Qc, S, h, hq⟩ => ⟨σc, C, _, S, h, fun z C1 H1 h1 R1 k1 => by
    cases z with
    | true => exact iteT ⟨σc, C1, _, S.step k1 R1, h1, hq.from_ k1⟩
    | false => exact iteF ⟨σc, C1, _, S.step k1 R1, h1, hq.from_ k1⟩⟩
/-! arguments and displays -/
def cNil : CTA := fun _ C Q => Q [] C
def cCons (a : CTE) (r : CTA) : CTA := fun σ C Q => a σ C fun d C1 => r σ C1 fun ds C2 => Q (d :: ds) C2
variable {cs : CTA}
theorem cpa_nil : CPA X cl H0 C0 [] cNil := pa_nil.imp fun σ H Q ⟨σc, C, Qc, S, h, hq⟩ => hq _ _ _ _ h .nil S.r Keep.refl
theorem cpa_cons (ha : CPE X cl H0 C0 e ca) (hr : CPA X cl H0 C0 es cs) (hs : starEach (e :: es) X.env = (false, eval e X.env) :: starEach es X.env) : CPA X cl H0 C0 (e :: es) (cCons ca cs) :=
  (pa_cons ha hr hs).imp fun σ H Q ⟨σc, C, Qc, S, h, hq⟩ => ⟨σc, C, _, S, h, fun d C1 v H1 h1 rv R1 k1 => ⟨σc, C1, _, S.step k1 R1, h1, fun ds C2 vs H2 h2 rs R2 k2 =>
    hq _ _ _ _ h2 (.cons (rv.keep R1 k2) rs) R2 (k1.trans k2)⟩⟩
def oTup : OL := fun ds C Q => ds.length ≤ sizeLine ∧ Q (.tup ds) C
def oLst : OL := fun ds C Q => ds.length ≤ sizeLine ∧ ∀ p, C p = none → Q (.ref p) (cup C p (.lst ds))
end
section
variable {K : PySem.W.Frag} {cl : ClsT} {H : Hp} {C : CH}
theorem keep_newH {p : Addr} (hp : H p = none) (o : HO) (R : Rel K cl H C) : Keep H C (upd H p o) C := fun b u h n => ⟨by rw [upd_ne (ne_of_none h hp)]; exact h, n⟩
theorem Rd.newH {p : Addr} (hp : H p = none) (o : HO) {a : Addr} {u : HO} (h : Rd H a u) : Rd (upd H p o) a u := by
  rcases h with h | ⟨w, h⟩
  · exact .inl (by rw [upd_ne (ne_of_none h hp)]; exact h)
  · exact .inr ⟨w, by rw [upd_ne (ne_of_none h hp)]; exact h⟩
theorem OkO.newH {p : Addr} (hp : H p = none) (R : Rel K cl H C) (o : HO) {a : Addr} {u : CO} (h : OkO K cl H a u) : OkO K cl (upd H p o) a u := by
  have k := keep_newH hp o R
  cases u with
  | lst ds => obtain ⟨vs, h1, h2⟩ := h; exact ⟨vs, by rw [upd_ne (ne_of_none h1 hp)]; exact h1, h2.keep R k⟩
  | dic ds => obtain ⟨vs, h1, h2⟩ := h; exact ⟨vs, by rw [upd_ne (ne_of_none h1 hp)]; exact h1, h2.keep R k⟩
  | dtk ds => obtain ⟨vs, h1, h2⟩ := h; exact ⟨vs, by rw [upd_ne (ne_of_none h1 hp)]; exact h1, h2.keep R k⟩
  | ins c ds => obtain ⟨Ca, dx, vs, h0, h1, h2⟩ := h; exact ⟨Ca, dx, vs, h0, by rw [upd_ne (ne_of_none h1 hp)]; exact h1, h2.keep R k⟩
theorem Rel.newH {p : Addr} (hp : H p = none) (R : Rel K cl H C) (o : HO) : Rel K cl (upd H p o) C := fun a u e => (R a u e).newH hp R o
/-- a new object, known to the clean heap too -/
theorem Rel.new {p : Addr} (hp : H p = none) (R : Rel K cl H C) (o : HO) (u : CO) (ok : OkO K cl (upd H p o) p u) : Rel K cl (upd H p o) (cup C p u) := fun a w e => by
  by_cases h : a = p
  · subst h; rw [cup_same] at e; cases e; exact ok
  · rw [cup_ne h] at e; exact (R a w e).newH hp R o
theorem Keep.new {p : Addr} (hp : H p = none) (R : Rel K cl H C) (o : HO) (u : CO) : Keep H C (upd H p o) (cup C p u) := fun b w h n =>
  ⟨by rw [upd_ne (ne_of_none h hp)]; exact h, by rw [cup_ne (ne_of_none h hp)]; exact n⟩
/-- an object of the clean heap is written -/
theorem Keep.write {a : Addr} {u : CO} (e : C a = some u) (o : HO) (u' : CO) : Keep H C (upd H a o) (cup C a u') := fun b w h n => by
  have hb : b ≠ a := by intro z; rw [z, e] at n; cases n
  exact ⟨by rw [upd_ne hb]; exact h, by rw [cup_ne hb]; exact n⟩
end
end L3

namespace L3
open PySem L2
section
variable {K : PySem.W.Frag} {cl : ClsT} {H : Hp} {C : CH}
/-- a new tuple at p -/
theorem EndE.tup {Qc : Kv} {Q : VK} {ds : List D} {vs : List V} (h : EndE K cl H C Qc Q) (q : Qc (.tup ds) C) (r : RepL K H ds vs) (R : Rel K cl H C) {p : Addr} (hp : H p = none) : Q (.ref p) (upd H p (.tup vs)) :=
  h _ _ _ _ q (.tup (.inl (.inl upd_same)) (r.keep R (keep_newH hp _ R))) (R.newH hp _) (keep_newH hp _ R)
/-- a new list at p -/
theorem EndE.lst {Qc : Kv} {Q : VK} {ds : List D} {vs : List V} (h : EndE K cl H C Qc Q) (r : RepL K H ds vs) (R : Rel K cl H C) {p : Addr} (hp : H p = none) (q : Qc (.ref p) (cup C p (.lst ds))) : Q (.ref p) (upd H p (.lst vs)) :=
  h _ _ _ _ q (.ref p) (R.new hp _ _ ⟨vs, upd_same, r.keep R (keep_newH hp _ R)⟩) (Keep.new hp R _ _)
theorem Rel.write (R : Rel K cl H C) {a : Addr} {u u' : CO} {o o' : HO} (e : C a = some u) (he : H a = some o) (nt : ∀ vs, ¬ Rd H a (.tup vs)) (ok : OkO K cl (upd H a o') a u') : Rel K cl (upd H a o') (cup C a u') := fun b w hb => by
  by_cases h : b = a
  · subst h; rw [cup_same] at hb; cases hb; exact ok
  · rw [cup_ne h] at hb
    have k : Keep H C (upd H a o') (cup C a u') := Keep.write e _ _
    have q := R b w hb
    cases w with
    | lst ds => obtain ⟨vs, h1, h2⟩ := q; exact ⟨vs, by rw [upd_ne h]; exact h1, h2.keep R k⟩
    | dic ds => obtain ⟨vs, h1, h2⟩ := q; exact ⟨vs, by rw [upd_ne h]; exact h1, h2.keep R k⟩
    | dtk ds => obtain ⟨vs, h1, h2⟩ := q; exact ⟨vs, by rw [upd_ne h]; exact h1, h2.keep R k⟩
    | ins c ds => obtain ⟨Ca, dx, vs, h0, h1, h2⟩ := q; exact ⟨Ca, dx, vs, h0, by rw [upd_ne h]; exact h1, h2.keep R k⟩
/-- a list written -/
theorem Rel.wlst (R : Rel K cl H C) {a : Addr} {u : CO} {vs : List V} {ds' : List D} {vs' : List V} (e : C a = some u) (he : H a = some (.lst vs)) (r : RepL K H ds' vs') : Rel K cl (upd H a (.lst vs')) (cup C a (.lst ds')) :=
  R.write e he (fun xs h => by rcases h with h | ⟨z, h⟩ <;> (rw [he] at h; cases h)) ⟨vs', upd_same, r.keep R (Keep.write e _ (.lst ds'))⟩
/-- a list read -/
def LsC (C : CH) (p : Addr) (ds : List D) : Prop := C p = some (.lst ds)
theorem Rel.ls (R : Rel K cl H C) {p : Addr} {ds : List D} (h : LsC C p ds) : ∃ vs, SqL K H p vs ∧ RepL K H ds vs := by
  obtain ⟨vs, h1, h2⟩ := R p _ h
  exact ⟨vs, .inl (.inl h1), h2⟩
/-- a sequence read: a tuple or a list -/
def SqC (C : CH) (d : D) (ds : List D) : Prop := d = .tup ds ∨ d = .rls ds ∨ ∃ p, d = .ref p ∧ LsC C p ds
theorem Rel.sq (R : Rel K cl H C) {d : D} {v : V} {ds : List D} (h : SqC C d ds) (r : Rep K H d v) : ∃ p vs, v = .ref p ∧ (SqL K H p vs ∨ SqT K H p vs) ∧ RepL K H ds vs := by
  rcases h with rfl | rfl | ⟨p, rfl, h⟩
  · cases r with
    | tup s t => exact ⟨_, _, rfl, .inr s, t⟩
  · cases r with
    | rls s t => exact ⟨_, _, rfl, .inl s.sq, t⟩
  · cases r
    obtain ⟨vs, h1, h2⟩ := R.ls h
    exact ⟨p, vs, rfl, .inl h1, h2⟩
end
section
variable {X : Cx} {cl : ClsT} {H0 : Hp} {C0 : CH} {e : Expr} {es : List Expr} {ca : CTE} {cs : CTA} {pos : Pos}
theorem cpe_tup {x1} (h : CPA X cl H0 C0 es cs) : CPE X cl H0 C0 (.Tuple es x1 pos) (cList oTup cs) :=
  (pe_tup h).imp fun σ H Q ⟨σc, C, Qc, S, h, hq⟩ => ⟨σc, C, _, S, h, fun ds C1 vs H1 ⟨hl, h1⟩ rs R1 k1 => ⟨by rw [← rs.length]; exact hl, fun p hp => (hq.from_ k1).tup h1 rs R1 hp⟩⟩
theorem cpe_lst (h : CPA X cl H0 C0 es cs) : CPE X cl H0 C0 (.List es pos) (cList oLst cs) :=
  (pe_lst h).imp fun σ H Q ⟨σc, C, Qc, S, h, hq⟩ => ⟨σc, C, _, S, h, fun ds C1 vs H1 ⟨hl, h1⟩ rs R1 k1 => ⟨by rw [← rs.length]; exact hl, fun p hp => (hq.from_ k1).lst rs R1 hp (h1 p (free_of R1 hp))⟩⟩
/-- a built-in function called -/
theorem cpe_callB {x : Str} {id : String} {p : Pos} {r : List V → Hp → VK → Prop} {o : OL} (hc : CallR X (.builtin id) r) (l : LkL X.K cl r o) (hg : Gl X x) (hm : X.mg x = none) (hv : bootBuiltins x = some (.builtin id)) (ha : CPA X cl H0 C0 (e :: es) cs) (hn : x ≠ "__name__") (hdb : (x == ("__debug__" : Str)) = false)
    (he : starEach (e :: es) X.env = (false, eval e X.env) :: starEach es X.env) (hpl : (backTo pos (starEach es X.env)).any (·.1) = false) : CPE X cl H0 C0 (.Call (.Name x p) (e :: es) [] pos) (cList o cs) :=
  (pe_callB hc hg hm hv ha hn hdb he hpl).imp fun σ H Q ⟨σc, C, Qc, S, h, hq⟩ => ⟨σc, C, _, S, h, fun ds C1 vs H1 h1 rs R1 k1 => l H1 C1 ds vs Q Qc rs R1 h1 (hq.from_ k1)⟩
theorem cpe_callTy {x : Str} {T : String} {p : Pos} {r : List V → Hp → VK → Prop} {o : OL} (hc : CallR X (.type T) r) (l : LkL X.K cl r o) (hg : Gl X x) (hm : X.mg x = none) (hv : bootBuiltins x = some (.type T)) (ha : CPA X cl H0 C0 (e :: es) cs) (hn : x ≠ "__name__") (hdb : (x == ("__debug__" : Str)) = false)
    (he : starEach (e :: es) X.env = (false, eval e X.env) :: starEach es X.env) (hpl : (backTo pos (starEach es X.env)).any (·.1) = false) : CPE X cl H0 C0 (.Call (.Name x p) (e :: es) [] pos) (cList o cs) :=
  (pe_callTy hc hg hm hv ha hn hdb he hpl).imp fun σ H Q ⟨σc, C, Qc, S, h, hq⟩ => ⟨σc, C, _, S, h, fun ds C1 vs H1 h1 rs R1 k1 => l H1 C1 ds vs Q Qc rs R1 h1 (hq.from_ k1)⟩
end

/-! ### operators, by values -/
section
variable {K : PySem.W.Frag} {cl : ClsT}
theorem rep_int {H : Hp} {i : Int} {v : V} (h : Rep K H (.int i) v) : v = .int i := by cases h; rfl
theorem rep_str {H : Hp} {i : Str} {v : V} (h : Rep K H (.str i) v) : v = .str i := by cases h; rfl
def o2I (P : Int → Int → Prop) (g : Int → Int → D) : O2 := fun x y C Q => ∃ i j, x = .int i ∧ y = .int j ∧ P i j ∧ Q (g i j) C
theorem lk_I {P : Int → Int → Prop} {g : Int → Int → V} {g' : Int → Int → D} (hg : ∀ H i j, Rep K H (g' i j) (g i j)) : Lk2 K cl (rI P g) (o2I P g') := fun H C d e v u Q Qc rd re R ⟨i, j, h1, h2, p, q⟩ hq => by
  subst h1; subst h2
  cases rd; cases re
  exact ⟨i, j, rfl, rfl, p, hq.now q (hg H i j) R⟩
theorem lk_I0 {g : Int → Int → V} {g' : Int → Int → D} (hg : ∀ H i j, Rep K H (g' i j) (g i j)) : Lk2 K cl (rI0 g) (o2I (fun _ _ => True) g') := fun H C d e v u Q Qc rd re R ⟨i, j, h1, h2, p, q⟩ hq => by
  subst h1; subst h2
  cases rd; cases re
  exact ⟨i, j, rfl, rfl, hq.now q (hg H i j) R⟩
theorem Lk2.or {r r' : R2} {o o' : O2} (h : Lk2 K cl r o) (h' : Lk2 K cl r' o') : Lk2 K cl (fun x y H Q => r x y H Q ∨ r' x y H Q) (fun x y C Q => o x y C Q ∨ o' x y C Q) := fun H C d e v u Q Qc rd re R q hq =>
  q.elim (fun q => .inl (h H C d e v u Q Qc rd re R q hq)) fun q => .inr (h' H C d e v u Q Qc rd re R q hq)
theorem LkL.or {r r' : List V → Hp → VK → Prop} {o o' : OL} (h : LkL K cl r o) (h' : LkL K cl r' o') : LkL K cl (fun x H Q => r x H Q ∨ r' x H Q) (fun x C Q => o x C Q ∨ o' x C Q) := fun H C ds vs Q Qc rd R q hq =>
  q.elim (fun q => .inl (h H C ds vs Q Qc rd R q hq)) fun q => .inr (h' H C ds vs Q Qc rd R q hq)
theorem RepL.nil_inv {H : Hp} {vs : List V} (h : RepL K H [] vs) : vs = [] := by cases h; rfl
theorem RepL.one {H : Hp} {d : D} {vs : List V} (h : RepL K H [d] vs) : ∃ v, vs = [v] ∧ Rep K H d v := by
  cases h with | cons r t => cases t; exact ⟨_, rfl, r⟩
theorem RepL.two {H : Hp} {d e : D} {vs : List V} (h : RepL K H [d, e] vs) : ∃ v u, vs = [v, u] ∧ Rep K H d v ∧ Rep K H e u := by
  cases h with | cons r t => obtain ⟨u, rfl, s⟩ := t.one; exact ⟨_, u, rfl, r, s⟩

/-- + of texts -/
def oAddS : O2 := fun x y C Q => ∃ i j, x = .str i ∧ y = .str j ∧ i.length + j.length ≤ sizeLine ∧ Q (.str (i ++ j)) C
theorem lk_addS : Lk2 K cl (fun x y H Q => ∃ i j, x = .str i ∧ y = .str j ∧ i.length + j.length ≤ sizeLine ∧ Q (.str (i ++ j)) H) oAddS := fun H C d e v u Q Qc rd re R ⟨i, j, h1, h2, p, q⟩ hq => by
  subst h1; subst h2
  cases rd; cases re
  exact ⟨i, j, rfl, rfl, p, hq.now q (.str _) R⟩
/-- + of lists that may change -/
def oCat : O2 := fun x y C Q => ∃ a b xs ys, x = .ref a ∧ y = .ref b ∧ C a = some (.lst xs) ∧ C b = some (.lst ys) ∧ xs.length + ys.length ≤ sizeLine ∧ ∀ p, C p = none → Q (.ref p) (cup C p (.lst (xs ++ ys)))
theorem lk_cat : Lk2 K cl rCat oCat := fun H C d e v u Q Qc rd re R ⟨a, b, xs, ys, h1, h2, ha, hb, p, q⟩ hq => by
  subst h1; subst h2
  cases rd; cases re
  obtain ⟨vs, e1, r1⟩ := R a _ ha
  obtain ⟨us, e2, r2⟩ := R b _ hb
  exact ⟨a, b, vs, us, rfl, rfl, e1, e2, by rw [← r1.length, ← r2.length]; exact p, fun p hp => hq.lst (r1.append r2) R hp (q p (free_of R hp))⟩
/-- + of tuples -/
def oCatT : O2 := fun x y C Q => ∃ xs ys, x = .tup xs ∧ y = .tup ys ∧ xs.length + ys.length ≤ sizeLine ∧ Q (.tup (xs ++ ys)) C
theorem lk_catT : Lk2 K cl (rCatA K) oCatT := fun H C d e v u Q Qc rd re R ⟨xs, ys, h1, h2, p, q⟩ hq => by
  subst h1; subst h2
  cases rd with
  | tup s1 t1 =>
  cases re with
  | tup s2 t2 =>
    refine ⟨_, _, _, _, rfl, rfl, s1, s2, by rw [← t1.length, ← t2.length]; exact p, fun z => ?_, fun z1 z2 => ?_, fun z1 z2 p hp => hq.tup q (t1.append t2) R hp⟩
    · subst z
      cases t1
      exact hq.now q (.tup s2 t2) R
    · subst z2
      cases t2
      rw [List.append_nil] at q
      exact hq.now q (.tup s1 t1) R
/-- items -/
def oIx : O2 := fun x y C Q => ∃ ds i d, SqC C x ds ∧ y = .int i ∧ atI ds i = some d ∧ Q d C
theorem RepL.atI {H : Hp} {ds : List D} {vs : List V} {i : Int} {d : D} (h : RepL K H ds vs) (e : atI ds i = some d) : ∃ v, L2.atI vs i = some v ∧ Rep K H d v := by
  unfold L2.atI at e ⊢
  rw [← h.length]
  cases hb : ixN ds.length i with
  | none => rw [hb] at e; cases e
  | some j => rw [hb] at e; exact h.get e
theorem lk_ix : Lk2 K cl (fun x y H Q => rIxL K x y H Q ∨ rIxT K x y H Q) oIx := fun H C d e v u Q Qc rd re R ⟨ds, i, z, h1, h2, h3, q⟩ hq => by
  subst h2
  cases re
  obtain ⟨p, vs, rfl, h, r⟩ := R.sq h1 rd
  obtain ⟨w, e1, r1⟩ := r.atI h3
  rcases h with h | h
  · exact .inl ⟨p, vs, i, w, rfl, rfl, h, e1, hq.now q r1 R⟩
  · exact .inr ⟨p, vs, i, w, rfl, rfl, h, e1, hq.now q r1 R⟩
def oIxS : O2 := fun x y C Q => ∃ z i c, x = .str z ∧ y = .int i ∧ z.length ≤ sizeLine ∧ atI z.cps.toList i = some c ∧ Q (.str ⟨#[c]⟩) C
theorem lk_ixS : Lk2 K cl rIxS oIxS := fun H C d e v u Q Qc rd re R ⟨z, i, c, h1, h2, h3, h4, q⟩ hq => by
  subst h1; subst h2
  cases rd; cases re
  exact ⟨z, i, c, rfl, rfl, h3, h4, hq.now q (.str _) R⟩
/-! dicts -/
def keyD : D → Option Key
  | .int i => some (.inl i)
  | .str x => some (.inr x)
  | _ => none
def valC (kvs : List (Key × D)) (k : Key) : Option D := (kvs.find? fun kv => decide (kv.1 = k)).map (·.2)
def putC (kvs : List (Key × D)) (k : Key) (v : D) : List (Key × D) := if (kvs.any fun kv => decide (kv.1 = k)) = true then kvs.map (fun kv => if kv.1 = k then (kv.1, v) else kv) else kvs ++ [(k, v)]
theorem keyD_rep {H : Hp} {d : D} {v : V} {k : Key} (h : keyD d = some k) (r : Rep K H d v) : v = kV k := by
  cases r <;> simp [keyD] at h <;> subst h <;> rfl
theorem RepF.val {H : Hp} {kvs : List (Key × D)} {vs : List (Key × V)} (h : RepF K H kvs vs) (k : Key) : (∀ d, valC kvs k = some d → ∃ v, valV vs k = some v ∧ Rep K H d v) ∧ (valC kvs k = none → valV vs k = none) := by
  unfold valC valV
  induction h with
  | nil => exact ⟨fun d e => by simp at e, fun _ => rfl⟩
  | @cons k' d' v' ds vs r t ih =>
    by_cases hk : k' = k
    · subst hk
      simp only [List.find?_cons, decide_true, Option.map_some]
      exact ⟨fun d e => ⟨v', rfl, by cases e; exact r⟩, fun e => nomatch e⟩
    · simp only [List.find?_cons, decide_eq_false hk]
      exact ih
def oGet : O2 := fun x y C Q => ∃ a kvs k d, x = .ref a ∧ C a = some (.dic kvs) ∧ keyD y = some k ∧ valC kvs k = some d ∧ Q d C
def rGetV : R2 := fun x y H Q => ∃ a v, x = .ref a ∧ DGet H a y (some v) ∧ Q v H
theorem lk_get : Lk2 K cl rGetV oGet := fun H C d e v u Q Qc rd re R ⟨a, kvs, k, z, h1, h2, h3, h4, q⟩ hq => by
  subst h1
  cases rd
  obtain ⟨vs, e1, r1⟩ := R a _ h2
  obtain ⟨w, e2, r2⟩ := (r1.val k).1 z h4
  have e3 := keyD_rep h3 re
  subst e3
  exact ⟨a, w, rfl, by rw [← e2]; exact DGet.k e1, hq.now q r2 R⟩
theorem _root_.L2.ix_dict {X : Cx} (hu : X.A.units + 1 < cLine) : IxR X rGetV := by
  intro value slice pins s σ H x y v u Q I rx ry h hs
  obtain ⟨a, w, rfl, g, q⟩ := h
  cases rx
  exact PyProof.Rows.tail_any (dict_typeIs I g) PySem.F.slot_dict_getitem.lookup (d_getItem hu I g ry fun w' s' I' r' => ⟨w, H, I', r', q⟩) hs
/-! length -/
def oLen : OL := fun xs C Q => ∃ x, xs = [x] ∧ ((∃ ds, SqC C x ds ∧ Q (.int ds.length) C) ∨ (∃ z, x = .str z ∧ z.length ≤ sizeLine ∧ Q (.int z.length) C))
theorem lk_len : LkL K cl (fun xs H Q => (∃ p ys, xs = [.ref p] ∧ (SqL K H p ys ∨ SqT K H p ys) ∧ Q (.int ys.length) H) ∨ (∃ z, xs = [.str z] ∧ z.length ≤ sizeLine ∧ Q (.int z.length) H)) oLen := fun H C ds vs Q Qc rs R ⟨x, h1, h2⟩ hq => by
  subst h1
  obtain ⟨v, rfl, r⟩ := rs.one
  rcases h2 with ⟨ds, h, q⟩ | ⟨z, rfl, h, q⟩
  · obtain ⟨p, vs, rfl, h, rr⟩ := R.sq h r
    exact .inl ⟨p, vs, rfl, h, by rw [← rr.length]; exact hq.now q (.int _) R⟩
  · cases r
    exact .inr ⟨z, rfl, h, hq.now q (.int _) R⟩
/-- int(i), int(flag) -/
def oInt : OL := fun xs C Q => (∃ i, xs = [.int i] ∧ Q (.int i) C) ∨ ∃ k, xs = [.bl k] ∧ Q (.int (if k then 1 else 0)) C
theorem lk_int : LkL K cl (fun xs H Q => (∃ i, xs = [.int i] ∧ Q (.int i) H) ∨ ∃ k, xs = [.bl k] ∧ Q (.int (if k then 1 else 0)) H) oInt := fun H C ds vs Q Qc rs R h hq => by
  rcases h with ⟨i, rfl, q⟩ | ⟨k, rfl, q⟩
  · obtain ⟨v, rfl, r⟩ := rs.one
    cases r
    exact .inl ⟨i, rfl, hq.now q (.int _) R⟩
  · obtain ⟨v, rfl, r⟩ := rs.one
    cases r
    exact .inr ⟨k, rfl, hq.now q (.int _) R⟩
/-- list(a list or tuple) -/
def oList : OL := fun xs C Q => ∃ x ds, xs = [x] ∧ SqC C x ds ∧ ∀ p, C p = none → Q (.ref p) (cup C p (.lst ds))
theorem lk_list : LkL K cl (fun xs H Q => ∃ p ys, xs = [.ref p] ∧ (SqL K H p ys ∨ SqT K H p ys) ∧ ∀ l, H l = none → Q (.ref l) (upd H l (.lst ys))) oList := fun H C ds vs Q Qc rs R ⟨x, es, h1, h2, q⟩ hq => by
  subst h1
  obtain ⟨v, rfl, r⟩ := rs.one
  obtain ⟨p, us, rfl, h, rr⟩ := R.sq h2 r
  exact ⟨p, us, rfl, h, fun l hl => hq.lst rr R hl (q l (free_of R hl))⟩
/-- tuple(a list or tuple) -/
def oTuple : OL := fun xs C Q => ∃ x ds, xs = [x] ∧ SqC C x ds ∧ Q (.tup ds) C
theorem lk_tuple : LkL K cl (fun xs H Q => ∃ p ys, xs = [.ref p] ∧ ((SqL K H p ys ∧ ∀ l, H l = none → Q (.ref l) (upd H l (.tup ys))) ∨ (SqT K H p ys ∧ Q (.ref p) H))) oTuple := fun H C ds vs Q Qc rs R ⟨x, es, h1, h2, q⟩ hq => by
  subst h1
  obtain ⟨v, rfl, r⟩ := rs.one
  obtain ⟨p, us, rfl, h, rr⟩ := R.sq h2 r
  refine ⟨p, us, rfl, ?_⟩
  rcases h with h | h
  · exact .inl ⟨h, fun l hl => hq.tup q rr R hl⟩
  · exact .inr ⟨h, hq.now q (.tup h rr) R⟩
/-- all, any of a list of bools -/
def oAll (f : List Bool → D) : OL := fun xs C Q => ∃ (p : Addr) (bs : List Bool), xs = [.ref p] ∧ LsC C p (bs.map D.bl) ∧ Q (f bs) C
theorem RepL.bls {H : Hp} : ∀ {bs : List Bool} {vs : List V}, RepL K H (bs.map D.bl) vs → vs = bs.map V.bl
  | [], _, .nil => rfl
  | b :: bs, _, .cons r t => by cases r; rw [RepL.bls t]; rfl
theorem RepL.ints {H : Hp} : ∀ {bs : List Int} {vs : List V}, RepL K H (bs.map D.int) vs → vs = bs.map V.int
  | [], _, .nil => rfl
  | b :: bs, _, .cons r t => by cases r; rw [RepL.ints t]; rfl
theorem RepL.strs {H : Hp} : ∀ {bs : List Str} {vs : List V}, RepL K H (bs.map D.str) vs → vs = bs.map V.str
  | [], _, .nil => rfl
  | b :: bs, _, .cons r t => by cases r; rw [RepL.strs t]; rfl
theorem lk_sum : LkL K cl (rSum K) (fun xs C Q => ∃ (p : Addr) (ns : List Int), xs = [.ref p] ∧ LsC C p (ns.map D.int) ∧ Q (.int ns.sum) C) := fun H C ds vs Q Qc rs R ⟨p, ns, h1, h2, q⟩ hq => by
  subst h1
  obtain ⟨v, rfl, r⟩ := rs.one
  cases r
  obtain ⟨us, e1, r1⟩ := R.ls h2
  have e2 := r1.ints
  subst e2
  exact ⟨p, ns, rfl, e1, hq.now q (.int _) R⟩
def oMaxL : OL := fun xs C Q => ∃ (p : Addr) (ns : List Int) (m : Int), xs = [.ref p] ∧ LsC C p (ns.map D.int) ∧ 0 < ns.length ∧ m ∈ ns ∧ (∀ y, y ∈ ns → y ≤ m) ∧ Q (.int m) C
theorem lk_maxL : LkL K cl (rMax K) oMaxL := fun H C ds vs Q Qc rs R ⟨p, ns, m, h1, h2, h3, h4, h5, q⟩ hq => by
  subst h1
  obtain ⟨v, rfl, r⟩ := rs.one
  cases r
  obtain ⟨us, e1, r1⟩ := R.ls h2
  have e2 := r1.ints
  subst e2
  refine ⟨p, ns, rfl, e1, h3, fun m' hm' hle => ?_⟩
  have e3 : m' = m := Int.le_antisymm (h5 m' hm') (hle m h4)
  subst e3
  exact hq.now q (.int _) R
/-- max, min of two ints -/
def oMax2 : OL := fun xs C Q => ∃ i j, xs = [.int i, .int j] ∧ Q (.int (if j > i then j else i)) C
def oMin2 : OL := fun xs C Q => ∃ i j, xs = [.int i, .int j] ∧ Q (.int (if j < i then j else i)) C
theorem lk_max2 : LkL K cl (fun xs H Q => ∃ i j, xs = [.int i, .int j] ∧ Q (.int (if j > i then j else i)) H) oMax2 := fun H C ds vs Q Qc rs R ⟨i, j, h1, q⟩ hq => by
  subst h1
  obtain ⟨v, u, rfl, r1, r2⟩ := rs.two
  cases r1; cases r2
  exact ⟨i, j, rfl, hq.now q (.int _) R⟩
theorem lk_min2 : LkL K cl (fun xs H Q => ∃ i j, xs = [.int i, .int j] ∧ Q (.int (if j < i then j else i)) H) oMin2 := fun H C ds vs Q Qc rs R ⟨i, j, h1, q⟩ hq => by
  subst h1
  obtain ⟨v, u, rfl, r1, r2⟩ := rs.two
  cases r1; cases r2
  exact ⟨i, j, rfl, hq.now q (.int _) R⟩
def oAbs : OL := fun xs C Q => ∃ i, xs = [.int i] ∧ Q (.int (if i < 0 then -i else i)) C
theorem lk_abs : LkL K cl (fun xs H Q => ∃ i, xs = [.int i] ∧ Q (.int (if i < 0 then -i else i)) H) oAbs := fun H C ds vs Q Qc rs R ⟨i, h1, q⟩ hq => by
  subst h1
  obtain ⟨v, rfl, r1⟩ := rs.one
  cases r1
  exact ⟨i, rfl, hq.now q (.int _) R⟩
/-! equality, membership -/
mutual
inductive Snap (C : CH) : D → PyData → Prop
  | non : Snap C .non .none
  | bl (b : Bool) : Snap C (.bl b) (.bool b)
  | int (i : Int) : Snap C (.int i) (.int i)
  | str (x : Str) : Snap C (.str x) (.str x)
  | tup {ds : List D} {ps : List PyData} : SnapL C ds ps → Snap C (.tup ds) (.tuple ps)
  | rls {ds : List D} {ps : List PyData} : SnapL C ds ps → Snap C (.rls ds) (.list ps)
  | lst {p : Addr} {ds : List D} {ps : List PyData} : LsC C p ds → SnapL C ds ps → Snap C (.ref p) (.list ps)
inductive SnapL (C : CH) : List D → List PyData → Prop
  | nil : SnapL C [] []
  | cons {d : D} {ds : List D} {p : PyData} {ps : List PyData} : Snap C d p → SnapL C ds ps → SnapL C (d :: ds) (p :: ps)
end
mutual
theorem Snap.dp {H : Hp} {C : CH} (R : Rel K cl H C) : ∀ {d : D} {p : PyData} {v : V}, Snap C d p → Rep K H d v → Dp K H v p
  | _, _, _, .non, .non => .non
  | _, _, _, .bl _, .bl _ => .bl _
  | _, _, _, .int _, .int _ => .int _
  | _, _, _, .str _, .str _ => .str _
  | _, _, _, .tup t, .tup s r => .tup s (SnapL.dp R t r)
  | _, _, _, .rls t, .rls s r => .lst s.sq (SnapL.dp R t r)
  | _, _, _, .lst h t, .ref _ => by
    obtain ⟨vs, h1, h2⟩ := R.ls h
    exact .lst h1 (SnapL.dp R t h2)
theorem SnapL.dp {H : Hp} {C : CH} (R : Rel K cl H C) : ∀ {d : List D} {p : List PyData} {v : List V}, SnapL C d p → RepL K H d v → DpAll K H v p
  | _, _, _, .nil, .nil => .nil
  | _, _, _, .cons a b, .cons r s => .cons (Snap.dp R a r) (SnapL.dp R b s)
end
def oEq (f : Bool → Bool) : O2 := fun x y C Q => ∃ p q, Snap C x p ∧ Snap C y q ∧ SeqAt.shaped p = true ∧ SeqAt.shaped q = true ∧ Q (.bl (f (PyData.eqv p q))) C
theorem lk_eq : Lk2 K cl (rEqD K) (oEq id) := fun H C d e v u Q Qc rd re R ⟨p, q, h1, h2, h3, h4, h5⟩ hq => ⟨p, q, h1.dp R rd, h2.dp R re, h3, h4, hq.now h5 (.bl _) R⟩
theorem lk_ne : Lk2 K cl (rNeD K) (oEq not) := fun H C d e v u Q Qc rd re R ⟨p, q, h1, h2, h3, h4, h5⟩ hq => ⟨p, q, h1.dp R rd, h2.dp R re, h3, h4, hq.now h5 (.bl _) R⟩
/-- in, not in a list of anything -/
def oInD (f : Bool → Bool) : O2 := fun x y C Q => ∃ a p ds ps, y = .ref a ∧ LsC C a ds ∧ Snap C x p ∧ SnapL C ds ps ∧ SeqAt.shaped p = true ∧ SeqAt.shaped (.list ps) = true ∧ Q (.bl (f (ps.any fun z => PyData.eqv z p))) C
theorem lk_inD : Lk2 K cl (rInD K) (oInD id) := fun H C d e v u Q Qc rd re R ⟨a, p, ds, ps, h1, h2, h3, h4, h5, h6, h7⟩ hq => by
  subst h1
  exact ⟨p, ps, h3.dp R rd, (Snap.lst h2 h4).dp R re, h5, h6, hq.now h7 (.bl _) R⟩
theorem lk_notInD : Lk2 K cl (rNotInD K) (oInD not) := fun H C d e v u Q Qc rd re R ⟨a, p, ds, ps, h1, h2, h3, h4, h5, h6, h7⟩ hq => by
  subst h1
  exact ⟨p, ps, h3.dp R rd, (Snap.lst h2 h4).dp R re, h5, h6, hq.now h7 (.bl _) R⟩
/-- in, not in a list or tuple of flat things -/
def flatD : D → Bool
  | .non | .bl _ | .int _ | .str _ => true
  | _ => false
def toV : D → V
  | .non => .non
  | .bl b => .bl b
  | .int i => .int i
  | .str x => .str x
  | _ => .non
theorem flat_rep {H : Hp} {d : D} {v : V} (r : Rep K H d v) (f : flatD d = true) : v = toV d ∧ flatV v = true := by
  cases r <;> first | exact ⟨rfl, rfl⟩ | (simp [flatD] at f)
theorem flat_reps {H : Hp} : ∀ {ds : List D} {vs : List V}, RepL K H ds vs → ds.all flatD = true → vs = ds.map toV ∧ vs.all flatV = true
  | _, _, .nil, _ => ⟨rfl, rfl⟩
  | _, _, .cons r t, f => by
    rw [List.all_cons, Bool.and_eq_true] at f
    obtain ⟨e1, f1⟩ := flat_rep r f.1
    obtain ⟨e2, f2⟩ := flat_reps t f.2
    refine ⟨by rw [e1, e2]; rfl, ?_⟩
    rw [List.all_cons, f1, f2]; rfl
def oInF (f : Bool → Bool) : O2 := fun x y C Q => ∃ ds, SqC C y ds ∧ flatD x = true ∧ ds.all flatD = true ∧ Q (.bl (f (inV (toV x) (ds.map toV)))) C
theorem lk_inF : Lk2 K cl (rIn K false) (oInF id) := fun H C d e v u Q Qc rd re R ⟨ds, h1, h2, h3, q⟩ hq => by
  obtain ⟨p, vs, rfl, h, rr⟩ := R.sq h1 re
  obtain ⟨e1, f1⟩ := flat_rep rd h2
  obtain ⟨e2, f2⟩ := flat_reps rr h3
  exact ⟨p, vs, rfl, h, f1, f2, hq.now (by rw [e1, e2]; exact q) (.bl _) R⟩
theorem lk_notInF : Lk2 K cl (rIn K true) (oInF not) := fun H C d e v u Q Qc rd re R ⟨ds, h1, h2, h3, q⟩ hq => by
  obtain ⟨p, vs, rfl, h, rr⟩ := R.sq h1 re
  obtain ⟨e1, f1⟩ := flat_rep rd h2
  obtain ⟨e2, f2⟩ := flat_reps rr h3
  exact ⟨p, vs, rfl, h, f1, f2, hq.now (by rw [e1, e2]; exact q) (.bl _) R⟩
/-- one sign in a text -/
def oInS (f : Bool → Bool) : O2 := fun x y C Q => ∃ (c : Nat) (z : Str), x = .str ⟨#[c]⟩ ∧ y = .str z ∧ Q (.bl (f (decide (c ∈ z.cps.toList)))) C
theorem lk_inS : Lk2 K cl (fun x y H Q => ∃ (c : Nat) (z : Str), x = .str ⟨#[c]⟩ ∧ y = .str z ∧ Q (.bl (decide (c ∈ z.cps.toList))) H) (oInS id) := fun H C d e v u Q Qc rd re R ⟨c, z, h1, h2, q⟩ hq => by
  subst h1; subst h2
  cases rd; cases re
  exact ⟨c, z, rfl, rfl, hq.now q (.bl _) R⟩
theorem lk_notInS : Lk2 K cl (fun x y H Q => ∃ (c : Nat) (z : Str), x = .str ⟨#[c]⟩ ∧ y = .str z ∧ Q (.bl (!decide (c ∈ z.cps.toList))) H) (oInS not) := fun H C d e v u Q Qc rd re R ⟨c, z, h1, h2, q⟩ hq => by
  subst h1; subst h2
  cases rd; cases re
  exact ⟨c, z, rfl, rfl, hq.now q (.bl _) R⟩
/-- is None, is not None -/
def isNon : D → Bool
  | .non => true
  | _ => false
def oIs (f : Bool → Bool) : O2 := fun x y C Q => y = .non ∧ Q (.bl (f (isNon x))) C
theorem isNon_rep {H : Hp} {d : D} {v : V} (r : Rep K H d v) : decide (v = .non) = isNon d := by cases r <;> rfl
theorem lk_is : Lk2 K cl (fun x y H Q => y = .non ∧ Q (.bl (decide (x = .non))) H) (oIs id) := fun H C d e v u Q Qc rd re R ⟨h, q⟩ hq => by
  subst h
  cases re
  exact ⟨rfl, hq.now (by rw [isNon_rep rd]; exact q) (.bl _) R⟩
theorem lk_isnot : Lk2 K cl (fun x y H Q => y = .non ∧ Q (.bl (!decide (x = .non))) H) (oIs not) := fun H C d e v u Q Qc rd re R ⟨h, q⟩ hq => by
  subst h
  cases re
  exact ⟨rfl, hq.now (by rw [isNon_rep rd]; exact q) (.bl _) R⟩
end
end L3

namespace L3
open PySem L2
section
variable {X : Cx} {cl : ClsT} {H0 : Hp} {C0 : CH} {e st : Expr} {s1 : Stmt} {rest : List Stmt} {ca : CTE} {ct : CTT} {c d : CTS} {pos : Pos}
def sNext : CTS := fun D σ C => D.nx σ C
def sSeq (c d : CTS) : CTS := fun D σ C => c { D with nx := d D } σ C
theorem EndS.seq {K : PySem.W.Frag} {H : Hp} {C : CH} {σ : St} {σc : Env3} {Dc : EndsC} {D : Ends} (hq : EndS K cl H C Dc D) (S : Keep H0 C0 H C) : EndS K cl H C { Dc with nx := d Dc } { D with nx := tS K cl H0 C0 d D } :=
  ⟨fun σc' C' σ' H' q r R k => ⟨σc', C', Dc, ⟨r, R, S.trans k⟩, q, hq.from_ k⟩, hq.rt, hq.bk, hq.ct⟩
theorem cpss_nil : CPSs X cl H0 C0 [] sNext := pss_nil.imp fun D σ H ⟨σc, C, Dc, S, h, hq⟩ => hq.nx _ _ _ _ h S.s S.r Keep.refl
theorem cpss_cons (h1 : CPS X cl H0 C0 s1 c) (h2 : CPSs X cl H0 C0 rest d) : CPSs X cl H0 C0 (s1 :: rest) (sSeq c d) :=
  (pss_cons h1 h2).imp fun D σ H ⟨σc, C, Dc, S, h, hq⟩ => ⟨σc, C, _, S, h, hq.seq (σ := σ) (σc := σc) S.f⟩
def sBreak : CTS := fun D σ C => D.bk σ C
def sCont : CTS := fun D σ C => D.ct σ C
theorem cps_pass : CPS X cl H0 C0 (.Pass pos) sNext := ps_pass.imp fun D σ H ⟨σc, C, Dc, S, h, hq⟩ => hq.nx _ _ _ _ h S.s S.r Keep.refl
theorem cps_break : CPS X cl H0 C0 (.Break pos) sBreak := ps_break.imp fun D σ H ⟨σc, C, Dc, S, h, hq⟩ => hq.bk _ _ _ _ h S.s S.r Keep.refl
theorem cps_cont : CPS X cl H0 C0 (.Continue pos) sCont := ps_continue.imp fun D σ H ⟨σc, C, Dc, S, h, hq⟩ => hq.ct _ _ _ _ h S.s S.r Keep.refl
def sDrop (a : CTE) : CTS := fun D σ C => a σ C fun _ C1 => D.nx σ C1
theorem cps_expr (he : CPE X cl H0 C0 e ca) (hs : swapsWith e none pos.line X.env = pure false) : CPS X cl H0 C0 (.Expr e pos) (sDrop ca) :=
  (ps_expr he hs).imp fun D σ H ⟨σc, C, Dc, S, h, hq⟩ => ⟨σc, C, _, S, h, fun d C1 v H1 h1 rv R1 k1 => hq.nx _ _ _ _ h1 (S.s.keep S.r k1) R1 k1⟩
def sRet (a : CTE) : CTS := fun D σ C => a σ C D.rt
theorem cps_ret (he : CPE X cl H0 C0 e ca) : CPS X cl H0 C0 (.Return (some e) pos) (sRet ca) :=
  (ps_ret he).imp fun D σ H ⟨σc, C, Dc, S, h, hq⟩ => ⟨σc, C, _, S, h, hq.rt⟩
def sRetN : CTS := fun D _ C => D.rt .non C
theorem cps_retN : CPS X cl H0 C0 (.Return none pos) sRetN := ps_retN.imp fun D σ H ⟨σc, C, Dc, S, h, hq⟩ => hq.rt.now h .non S.r
def sIf (t : CTT) (c d : CTS) : CTS := fun D σ C => t σ C fun b C1 => if b = true then c D σ C1 else d D σ C1
theorem cps_if {a b : List Stmt} (ht : CPT X cl H0 C0 e ct) (ha : CPSs X cl H0 C0 a c) (hb : CPSs X cl H0 C0 b d) : CPS X cl H0 C0 (.If e a b pos) (sIf ct c d) :=
  (ps_if ht ha hb).imp fun D σ H ⟨σc, C, Dc, S, h, hq⟩ => ⟨σc, C, _, S, h, fun z C1 H1 h1 R1 k1 => by
    cases z with
    | true => exact iteT ⟨σc, C1, Dc, S.step k1 R1, h1, hq.from_ k1⟩
    | false => exact iteF ⟨σc, C1, Dc, S.step k1 R1, h1, hq.from_ k1⟩⟩
def sNever : CTS := fun _ _ _ => False
theorem cps_never : CPS X cl H0 C0 s1 sNever := ps_never.imp fun D σ H ⟨σc, C, Dc, S, h, hq⟩ => h
end
/-! ### targets -/
abbrev CTG := D → Env3 → CH → (Env3 → CH → Prop) → Prop
abbrev CTGs := List D → Env3 → CH → (Env3 → CH → Prop) → Prop
def tG (K : PySem.W.Frag) (cl : ClsT) (g : CTG) : TG := fun v σ H Q => ∃ d σc C Qc, Rep K H d v ∧ RepS K H σc σ ∧ Rel K cl H C ∧ g d σc C Qc ∧ EndN K cl H C Qc Q
def tGs (K : PySem.W.Frag) (cl : ClsT) (g : CTGs) : TGs := fun v σ H Q => ∃ d σc C Qc, RepL K H d v ∧ RepS K H σc σ ∧ Rel K cl H C ∧ g d σc C Qc ∧ EndN K cl H C Qc Q
theorem _root_.L2.PG.imp {X : Cx} {e : Expr} {t t' : TG} (h : PG X e t) (i : ∀ v σ H Q, t' v σ H Q → t v σ H Q) : PG X e t' := ⟨fun pins s σ H v u Q I r q => h.run pins s σ H v u Q I r (i _ _ _ _ q)⟩
theorem _root_.L2.PGs.imp {X : Cx} {e : List Expr} {t t' : TGs} (h : PGs X e t) (i : ∀ v σ H Q, t' v σ H Q → t v σ H Q) : PGs X e t' := ⟨fun pins s σ H v u Q I r q => h.run pins s σ H v u Q I r (i _ _ _ _ q)⟩
def CPG (X : Cx) (cl : ClsT) (e : Expr) (g : CTG) : Prop := PG X e (tG X.K cl g)
def CPGs (X : Cx) (cl : ClsT) (e : List Expr) (g : CTGs) : Prop := PGs X e (tGs X.K cl g)
def hName (i : Nat) : CTG := fun d σ C Q => Q (σ.set i (some d)) C
def hNil : CTGs := fun ds σ C Q => ds = [] ∧ Q σ C
def hCons (g : CTG) (r : CTGs) : CTGs := fun ds σ C Q => ∃ d t, ds = d :: t ∧ g d σ C fun σ' C' => r t σ' C' Q
def hTup (n : Nat) (g : CTGs) : CTG := fun d σ C Q => ∃ ds, d = .tup ds ∧ ds.length = n ∧ g ds σ C Q
section
variable {X : Cx} {cl : ClsT} {H0 : Hp} {C0 : CH} {pos : Pos}
theorem cpg_name {i : Nat} {x : Str} (hN : X.N.Nodup) (hi : X.N[i]? = some x) (hx : Loc X.env.scope x) (hf : X.fn x = true ∨ X.env.scope.names.lookup x = some .local) : CPG X cl (.Name x pos) (hName i) :=
  (pg_name hN hi hx hf).imp fun v σ H Q ⟨d, σc, C, Qc, r, s, R, h, hq⟩ => hq _ _ _ _ h (s.set r i) R Keep.refl
theorem cpgs_nil : CPGs X cl [] hNil := pgs_nil.imp fun v σ H Q ⟨d, σc, C, Qc, r, s, R, ⟨h1, h2⟩, hq⟩ => by
  subst h1
  exact ⟨r.nil_inv, hq _ _ _ _ h2 s R Keep.refl⟩
theorem cpgs_cons {e : Expr} {es : List Expr} {g : CTG} {gs : CTGs} (h1 : CPG X cl e g) (h2 : CPGs X cl es gs) (hs : (assignEach (e :: es) X.env).map (·.2) = assign e X.env :: (assignEach es X.env).map (·.2)) : CPGs X cl (e :: es) (hCons g gs) :=
  (pgs_cons h1 h2 hs).imp fun v σ H Q ⟨ds, σc, C, Qc, r, s, R, ⟨d, t, h1, h2⟩, hq⟩ => by
    subst h1
    cases r with
    | cons r rr =>
      exact ⟨_, _, rfl, d, σc, C, _, r, s, R, h2, fun σc' C' σ' H' q s' R' k => ⟨t, σc', C', Qc, rr.keep R k, s', R', q, hq.from_ k⟩⟩
theorem cpg_tup {es : List Expr} {k : Nat} {g : CTGs} {n : Nat} (hc : X.calm = true) (h : CPGs X cl es g) (hn : (assignEach es X.env).length = n) (hst : (assignEach es X.env).findIdx? (·.1) = none) : CPG X cl (.Tuple es k pos) (hTup n g) :=
  (pg_tup hc h hn hst).imp fun v σ H Q ⟨d, σc, C, Qc, r, s, R, ⟨ds, h1, h2, h3⟩, hq⟩ => by
    subst h1
    cases r with
    | tup sq rr => exact ⟨_, _, rfl, sq, by rw [← rr.length]; exact h2, ds, σc, C, Qc, rr, s, R, h3, hq⟩
/-- target = value -/
def sAsg (a : CTE) (g : CTG) : CTS := fun D σ C => a σ C fun d C1 => g d σ C1 D.nx
theorem tAsg_of {ca : CTE} {g : CTG} : ∀ D σ H, tS X.K cl H0 C0 (sAsg ca g) D σ H → tAsg (tE X.K cl H0 C0 ca) (tG X.K cl g) D σ H := fun D σ H ⟨σc, C, Dc, S, h, hq⟩ =>
  ⟨σc, C, _, S, h, fun d C1 v H1 h1 rv R1 k1 => ⟨d, σc, C1, _, rv, S.s.keep S.r k1, R1, h1, hq.nx.from_ k1⟩⟩
theorem cps_asg {tg e : Expr} {ca : CTE} {g : CTG} (he : CPE X cl H0 C0 e ca) (hg : CPG X cl tg g) (hs : swapsWithSole [tg] e pos.line X.env = pure false) (hw : swappedStores [tg] e X.env = pure none)
    (h1 : (assignEach [tg] X.env).map (·.2) = [assign tg X.env]) : CPS X cl H0 C0 (.Assign [tg] e pos) (sAsg ca g) := (ps_asg he hg hs hw h1).imp tAsg_of
theorem cps_set {i : Nat} {x : Str} {e : Expr} {ca : CTE} {pos' : Pos} (hN : X.N.Nodup) (hi : X.N[i]? = some x) (hx : Loc X.env.scope x) (he : CPE X cl H0 C0 e ca) (hs : swapsWith e (some (.Name x pos')) pos.line X.env = pure false) (hf : X.fn x = true ∨ X.env.scope.names.lookup x = some .local) :
    CPS X cl H0 C0 (.Assign [.Name x pos'] e pos) (sAsg ca (hName i)) :=
  (ps_set hN hi hx he hs hf).imp fun D σ H ⟨σc, C, Dc, S, h, hq⟩ => ⟨σc, C, _, S, h, fun d C1 v H1 h1 rv R1 k1 => hq.nx _ _ _ _ h1 ((S.s.keep S.r k1).set rv i) R1 k1⟩
/-- a, b = x, y with plain local names -/
def sPar (i j : Nat) (a : CTA) : CTS := fun D σ C => a σ C fun ds C1 => ∃ d e, ds = [d, e] ∧ D.nx ((σ.set i (some d)).set j (some e)) C1
theorem cps_par {i j : Nat} {x y : Str} {a b : Expr} {cs : CTA} {px py pt : Pos} {kt k2 pt2} (hc : X.calm = true) (hN : X.N.Nodup) (hi : X.N[i]? = some x) (hj : X.N[j]? = some y) (hij : i ≠ j)
    (hx : X.env.scope.names.lookup x = some .local) (hy : X.env.scope.names.lookup y = some .local) (ha : CPA X cl H0 C0 [a, b] cs)
    (hw : swappedStores [.Tuple [.Name x px, .Name y py] kt pt] (.Tuple [a, b] k2 pt2) X.env = pure (some [x, y]))
    (hs : swapsWithSole [.Tuple [.Name x px, .Name y py] kt pt] (.Tuple [a, b] k2 pt2) pos.line X.env = pure false) :
    CPS X cl H0 C0 (.Assign [.Tuple [.Name x px, .Name y py] kt pt] (.Tuple [a, b] k2 pt2) pos) (sPar i j cs) :=
  (ps_par hc hN hi hj hij hx hy ha hw hs).imp fun D σ H ⟨σc, C, Dc, S, h, hq⟩ => ⟨σc, C, _, S, h, fun ds C1 vs H1 ⟨d, e, h1, h2⟩ rs R1 k1 => by
    subst h1
    obtain ⟨v, u, rfl, r1, r2⟩ := rs.two
    exact ⟨v, u, rfl, hq.nx _ _ _ _ h2 (((S.s.keep S.r k1).set r1 i).set r2 j) R1 k1⟩⟩
/-- o[i] = v -/
abbrev O3 := D → D → D → CH → (CH → Prop) → Prop
def LkSet (K : PySem.W.Frag) (cl : ClsT) (r : TSet) (o : O3) : Prop := ∀ H C d e z v u w Q Qc, Rep K H d v → Rep K H e u → Rep K H z w → Rel K cl H C → o d e z C Qc → (∀ C' H', Qc C' → Rel K cl H' C' → Keep H C H' C' → Q H') → r v u w H Q
def sSet (a o i : CTE) (f : O3) : CTS := fun D σ C => a σ C fun z C1 => o σ C1 fun d C2 => i σ C2 fun e C3 => f d e z C3 fun C4 => D.nx σ C4
theorem cps_sub {o i e : Expr} {co ci ca : CTE} {r : TSet} {f : O3} {pos' : Pos} (ho : CPE X cl H0 C0 o co) (hi : CPE X cl H0 C0 i ci) (he : CPE X cl H0 C0 e ca) (hset : PSet X r) (l : LkSet X.K cl r f)
    (ha : ∀ v, assign (.Subscript o i pos') X.env v = (do
      let ov ← holding [v] (eval o X.env)
      let iv ← holding [v, ov] (eval i X.env)
      standAt pos'
      holding [v, ov, iv] (setItem ov iv v)
      release [v, ov, iv] []))
    (hs : swapsWithSole [.Subscript o i pos'] e pos.line X.env = pure false) (hw : swappedStores [.Subscript o i pos'] e X.env = pure none)
    (h1 : (assignEach [.Subscript o i pos'] X.env).map (·.2) = [assign (.Subscript o i pos') X.env]) : CPS X cl H0 C0 (.Assign [.Subscript o i pos'] e pos) (sSet ca co ci f) :=
  (ps_asg he (pg_sub ho hi hset ha) hs hw h1).imp fun D σ H ⟨σc, C, Dc, S, h, hq⟩ =>
    ⟨σc, C, _, S, h, fun z C1 w H1 h1 rz R1 k1 => ⟨σc, C1, _, S.step k1 R1, h1, fun d C2 v H2 h2 rd R2 k2 => ⟨σc, C2, _, (S.step k1 R1).step k2 R2, h2, fun e C3 u H3 h3 re R3 k3 =>
      l H3 C3 d e z v u w _ _ (rd.keep R2 k3) re ((rz.keep R1 k2).keep R2 k3) R3 h3 fun C4 H4 h4 R4 k4 => hq.nx _ _ _ _ h4 ((((S.step k1 R1).step k2 R2).step k3 R3).step k4 R4).s R4 (((k1.trans k2).trans k3).trans k4)⟩⟩⟩
def oSetL : O3 := fun x y z C Q => ∃ p ds i j, x = .ref p ∧ y = .int i ∧ C p = some (.lst ds) ∧ ixN ds.length i = some j ∧ Q (cup C p (.lst (ds.set j z)))
theorem lk_setL {K : PySem.W.Frag} : LkSet K cl rSetL oSetL := fun H C d e z v u w Q Qc rd re rz R ⟨p, ds, i, j, h1, h2, h3, h4, q⟩ hq => by
  subst h1; subst h2
  cases rd; cases re
  obtain ⟨vs, e1, r1⟩ := R p _ h3
  exact ⟨p, vs, i, j, rfl, rfl, e1, by rw [← r1.length]; exact h4, hq _ _ q (R.wlst h3 e1 (r1.set rz j)) (Keep.write h3 _ _)⟩
end
section
variable {K : PySem.W.Frag} {cl : ClsT} {H : Hp} {C : CH}
theorem RepF.put {kvs : List (Key × D)} {vs : List (Key × V)} (h : RepF K H kvs vs) (k : Key) {d : D} {v : V} (r : Rep K H d v) : RepF K H (putC kvs k d) (putK vs k v) := by
  have e : (vs.any fun kv => decide (kv.1 = k)) = (kvs.any fun kv => decide (kv.1 = k)) := by
    induction h with
    | nil => rfl
    | cons r' t ih => rw [List.any_cons, List.any_cons, ih]
  unfold putC putK
  rw [e]
  split
  · clear e
    rename_i hc
    clear hc
    induction h with
    | nil => exact .nil
    | @cons k' d' v' ds' vs' r' t ih =>
      rw [List.map_cons, List.map_cons]
      by_cases hk : k' = k
      · rw [if_pos hk, if_pos hk]; exact .cons r ih
      · rw [if_neg hk, if_neg hk]; exact .cons r' ih
  · clear e
    rename_i hc
    clear hc
    induction h with
    | nil => exact .cons r .nil
    | cons r' t ih => exact .cons r' ih
def oSetD : O3 := fun x y z C Q => ∃ p kvs k, x = .ref p ∧ C p = some (.dic kvs) ∧ keyD y = some k ∧ kvs.length < sizeLine ∧ Q (cup C p (.dic (putC kvs k z)))
theorem lk_setD : LkSet K cl rSetD oSetD := fun H C d e z v u w Q Qc rd re rz R ⟨p, kvs, k, h1, h2, h3, h4, q⟩ hq => by
  subst h1
  cases rd
  obtain ⟨vs, e1, r1⟩ := R p _ h2
  have e3 := keyD_rep h3 re
  subst e3
  refine ⟨p, _, rfl, DPut.k e1 (by rw [← r1.length]; exact h4), hq _ _ q (R.write h2 e1 (fun xs h => by rcases h with h | ⟨z, h⟩ <;> (rw [e1] at h; cases h)) ⟨_, upd_same, (r1.put k rz).keep R (Keep.write h2 _ (.dic (putC kvs k z)))⟩) (Keep.write h2 _ _)⟩
end
/-! ### loops -/
/-- what an iterable yields: the items from turn 0, while the guard stands -/
abbrev CTI := Env3 → CH → (List D → (CH → Prop) → CH → Prop) → Prop
/-- the iterator J yields ds while the guard stands -/
structure ItOk (K : PySem.W.Frag) (cl : ClsT) (H0 : Hp) (C0 : CH) (J : It) (ds : List D) (G : CH → Prop) : Prop where
  go : ∀ (i : Nat) (H : Hp) (C : CH), Keep H0 C0 H C → Rel K cl H C → G C → i < ds.length → J.go i H
  yld : ∀ (i : Nat) (H : Hp) (C : CH) (x : V) (H' : Hp), Keep H0 C0 H C → Rel K cl H C → G C → J.yld i H x H' → ∀ d, ds[i]? = some d → Rep K H' d x ∧ Rel K cl H' C ∧ Keep H C H' C
  stop : ∀ (i : Nat) (H : Hp) (C : CH), Keep H0 C0 H C → Rel K cl H C → G C → ds.length ≤ i → J.stop i H
def tI (K : PySem.W.Frag) (cl : ClsT) (H0 : Hp) (C0 : CH) (c : CTI) : TI := fun σ H R => ∃ σc C Qc, S3 K cl H0 C0 σ H σc C ∧ c σc C Qc ∧ ∀ ds G C1 H1 J, Qc ds G C1 → Rel K cl H1 C1 → Keep H C H1 C1 → ItOk K cl H1 C1 J ds G → R J H1
theorem _root_.L2.PI.imp {X : Cx} {tg e : Expr} {t t' : TI} (h : PI X tg e t) (i : ∀ σ H Q, t' σ H Q → t σ H Q) : PI X tg e t' := ⟨fun pins s σ H Q I q => h.run pins s σ H Q I (i _ _ _ q)⟩
def CPI (X : Cx) (cl : ClsT) (H0 : Hp) (C0 : CH) (tg e : Expr) (c : CTI) : Prop := PI X tg e (tI X.K cl H0 C0 c)
/-- for: one turn after another -/
def forL (g : CTG) (b : CTS) (G : CH → Prop) (E : EndsC) : List D → Env3 → CH → Prop
  | [], σ, C => G C ∧ E.nx σ C
  | d :: r, σ, C => G C ∧ g d σ C fun σ1 C1 => b { E with nx := forL g b G E r, ct := forL g b G E r, bk := E.nx } σ1 C1
def sFor (it : CTI) (g : CTG) (b : CTS) : CTS := fun D σ C => it σ C fun ds G C1 => forL g b G D ds σ C1
section
variable {X : Cx} {cl : ClsT} {H0 : Hp} {C0 : CH} {pos : Pos}
theorem cps_for {tg iter : Expr} {body : List Stmt} {it : CTI} {g : CTG} {b : CTS} (hp : PassesOwn (model X.prog X.w) X.A X.env X.xe) (hc : X.calm = true) (hi : CPI X cl H0 C0 tg iter it) (hg : CPG X cl tg g) (hb : CPSs X cl H0 C0 body b)
    (hs : ∀ x, foldedSetIterable iter X.env x = pure x) : CPS X cl H0 C0 (.For tg iter body [] pos) (sFor it g b) :=
  (ps_for hp hc hi hg hb hs).imp fun D σ H ⟨σc, C, Dc, S, h, hq⟩ => ⟨σc, C, _, S, h, fun ds G C1 H1 J h1 R1 k1 ok => by
    refine ⟨fun i m σ' H' => m = ds.length - i ∧ i ≤ ds.length ∧ ∃ σc' C', RepS X.K H' σc' σ' ∧ Rel X.K cl H' C' ∧ Keep H1 C1 H' C' ∧ forL g b G Dc (ds.drop i) σc' C', ⟨ds.length, by simp, Nat.zero_le _, σc, C1, S.s.keep S.r k1, R1, Keep.refl, h1⟩, ?_⟩
    rintro i m σ' H' ⟨rfl, hi, σc', C', s', R', k', hl⟩
    by_cases hlt : i < ds.length
    · rw [List.drop_eq_getElem_cons hlt] at hl
      obtain ⟨hG, hl⟩ := hl
      refine .inr ⟨ok.go i H' C' k' R' hG hlt, fun σ2 H2 => ∃ σc2 C2, RepS X.K H2 σc2 σ2 ∧ Rel X.K cl H2 C2 ∧ Keep H1 C1 H2 C2 ∧ forL g b G Dc (ds.drop (i + 1)) σc2 C2, fun σ2 H2 ⟨σc2, C2, s2, R2, k2, l2⟩ => ⟨ds.length - (i + 1), by omega, rfl, hlt, σc2, C2, s2, R2, k2, l2⟩, fun x H2 hy => ?_⟩
      obtain ⟨rx, R2, k2⟩ := ok.yld i H' C' x H2 k' R' hG hy _ (List.getElem?_eq_getElem hlt)
      refine ⟨_, σc', C', _, rx, s'.keep R' k2, R2, hl, fun σc3 C3 σ3 H3 h3 s3 R3 k3 => ?_⟩
      have kk : Keep H C H3 C3 := ((k1.trans k').trans k2).trans k3
      refine ⟨σc3, C3, _, ⟨s3, R3, S.f.trans kk⟩, h3, ?_⟩
      have again : EndN X.K cl H3 C3 (forL g b G Dc (ds.drop (i + 1))) fun σ2 H2 => ∃ σc2 C2, RepS X.K H2 σc2 σ2 ∧ Rel X.K cl H2 C2 ∧ Keep H1 C1 H2 C2 ∧ forL g b G Dc (ds.drop (i + 1)) σc2 C2 :=
        fun σc4 C4 σ4 H4 h4 s4 R4 k4 => ⟨σc4, C4, s4, R4, ((k'.trans k2).trans k3).trans k4, h4⟩
      exact ⟨again, hq.rt.from_ kk, hq.nx.from_ kk, again⟩
    · have e : ds.drop i = [] := List.drop_eq_nil_of_le (by omega)
      rw [e] at hl
      exact .inl ⟨ok.stop i H' C' k' R' hl.1 (by omega), hq.nx _ _ _ _ hl.2 s' R' (k1.trans k')⟩⟩
/-- while: at most m turns -/
def whileN (t : CTT) (b : CTS) (D : EndsC) : Nat → Env3 → CH → Prop
  | 0, _, _ => False
  | m + 1, σ, C => t σ C fun k C1 => if k = true then b { D with nx := whileN t b D m, ct := whileN t b D m, bk := D.nx } σ C1 else D.nx σ C1
def sWhile (t : CTT) (b : CTS) : CTS := fun D σ C => ∃ m, whileN t b D m σ C
theorem cps_while {e : Expr} {body : List Stmt} {t : CTT} {b : CTS} (hp : PassesOwn (model X.prog X.w) X.A X.env X.xe) (ht : CPT X cl H0 C0 e t) (hb : CPSs X cl H0 C0 body b) : CPS X cl H0 C0 (.While e body [] pos) (sWhile t b) :=
  (ps_while hp ht hb).imp fun D σ H ⟨σc, C, Dc, S, ⟨m0, h⟩, hq⟩ => by
    refine ⟨fun m σ' H' => ∃ σc' C', RepS X.K H' σc' σ' ∧ Rel X.K cl H' C' ∧ Keep H C H' C' ∧ whileN t b Dc m σc' C', ⟨m0, σc, C, S.s, S.r, Keep.refl, h⟩, ?_⟩
    rintro m σ' H' ⟨σc', C', s', R', k', hl⟩
    cases m with
    | zero => exact hl.elim
    | succ m =>
      refine ⟨σc', C', _, ⟨s', R', S.f.trans k'⟩, hl, fun z C1 H1 h1 R1 k1 => ?_⟩
      have kk := k'.trans k1
      cases z with
      | true =>
        refine iteT ⟨fun σ2 H2 => ∃ σc2 C2, RepS X.K H2 σc2 σ2 ∧ Rel X.K cl H2 C2 ∧ Keep H C H2 C2 ∧ whileN t b Dc m σc2 C2, fun σ2 H2 h2 => ⟨m, Nat.lt_succ_self m, h2⟩, ?_⟩
        have again : EndN X.K cl H1 C1 (whileN t b Dc m) fun σ2 H2 => ∃ σc2 C2, RepS X.K H2 σc2 σ2 ∧ Rel X.K cl H2 C2 ∧ Keep H C H2 C2 ∧ whileN t b Dc m σc2 C2 :=
          fun σc4 C4 σ4 H4 h4 s4 R4 k4 => ⟨σc4, C4, s4, R4, kk.trans k4, h4⟩
        exact ⟨σc', C1, _, ⟨s'.keep R' k1, R1, S.f.trans kk⟩, h1, ⟨again, hq.rt.from_ kk, hq.nx.from_ kk, again⟩⟩
      | false => exact iteF (hq.nx _ _ _ _ h1 (s'.keep R' k1) R1 kk)
end
/-! ### what is walked -/
section
variable {X : Cx} {cl : ClsT} {H0 : Hp} {C0 : CH} {pos : Pos}
/-- a list (as it stands), a tuple -/
def iSeq (a : CTE) : CTI := fun σ C R => a σ C fun d C1 => ∃ ds, ((d = .tup ds ∨ d = .rls ds) ∧ R ds (fun _ => True) C1) ∨ (∃ p, d = .ref p ∧ LsC C1 p ds ∧ R ds (fun C => LsC C p ds) C1)
theorem itOk_tup {K : PySem.W.Frag} {a : Addr} {ds : List D} {vs : List V} {H : Hp} {C : CH} (s : SqT K H a vs) (r : RepL K H ds vs) (R : Rel K cl H C) : ItOk K cl H C (Itt K a) ds (fun _ => True) where
  go := fun i H' C' k R' _ hi => by
    obtain ⟨v, e, _⟩ := r.get (List.getElem?_eq_getElem hi)
    exact ⟨vs, v, SqT.keep R k s, e⟩
  yld := fun i H' C' x H'' k R' _ ⟨e, y⟩ d hd => by
    subst e
    obtain ⟨v, e, rv⟩ := r.get hd
    have := y vs (SqT.keep R k s)
    rw [e] at this; cases this
    exact ⟨rv.keep R k, R', Keep.refl⟩
  stop := fun i H' C' k R' _ hi => ⟨vs, SqT.keep R k s, by rw [← r.length]; exact hi⟩
theorem itOk_lst' {K : PySem.W.Frag} {p : Addr} {ds : List D} {H : Hp} {C : CH} : ItOk K cl H C (Itl K p) ds (fun C => LsC C p ds) where
  go := fun i H' C' k R' hG hi => by
    obtain ⟨vs, s, r⟩ := R'.ls hG
    obtain ⟨v, e, _⟩ := r.get (List.getElem?_eq_getElem hi)
    exact ⟨vs, v, s, e⟩
  yld := fun i H' C' x H'' k R' hG ⟨e, y⟩ d hd => by
    subst e
    obtain ⟨vs, s, r⟩ := R'.ls hG
    obtain ⟨v, e, rv⟩ := r.get hd
    have := y vs s
    rw [e] at this; cases this
    exact ⟨rv, R', Keep.refl⟩
  stop := fun i H' C' k R' hG hi => by
    obtain ⟨vs, s, r⟩ := R'.ls hG
    exact ⟨vs, s, by rw [← r.length]; exact hi⟩
theorem rls_inj {X : Cx} {pins : List (Addr × Obj)} {σ : St} {H : Hp} {s : Shared} {a : Addr} {xs ys : List V} (I : Inv X pins σ H s) (h : RlS X.K H a xs) (h' : SqL X.K H a ys) : xs = ys := I.list_inj h.sq h'
theorem itOk_rls {X : Cx} {pins : List (Addr × Obj)} {σ : St} {H : Hp} {C : CH} {s : Shared} {a : Addr} {ds : List D} {vs : List V} (I : Inv X pins σ H s) (q : RlS X.K H a vs) (r : RepL X.K H ds vs) (R : Rel X.K cl H C) : ItOk X.K cl H C (Itl X.K a) ds (fun _ => True) where
  go := fun i H' C' k R' _ hi => by
    obtain ⟨v, e, _⟩ := r.get (List.getElem?_eq_getElem hi)
    exact ⟨vs, v, (q.keep R k).sq, e⟩
  yld := fun i H' C' x H'' k R' _ ⟨e, y⟩ d hd => by
    subst e
    obtain ⟨v, e, rv⟩ := r.get hd
    have := y vs (q.keep R k).sq
    rw [e] at this; cases this
    exact ⟨rv.keep R k, R', Keep.refl⟩
  stop := fun i H' C' k R' _ hi => ⟨vs, (q.keep R k).sq, by rw [← r.length]; exact hi⟩
theorem _root_.L2.PI.or {X : Cx} {tg e : Expr} {te : TE} {a b : V → Hp → (It → Hp → Prop) → Prop} (h : PI X tg e (fun σ H R => te σ H fun x H1 => a x H1 R)) (h' : PI X tg e (fun σ H R => te σ H fun x H1 => b x H1 R))
    (he : PE X e te) (hv : ∀ (pins : List (Addr × Obj)) (s : Shared) (σ : St) (H : Hp) (x : V) (u : Value) (R : It → Hp → Prop), Inv X pins σ H s → RelV x u → (a x H R ∨ b x H R) → wpAny (model X.prog X.w) X.A (pyIter u) (PIE X pins σ tg R) X.xe s) :
    PI X tg e (fun σ H R => te σ H fun x H1 => a x H1 R ∨ b x H1 R) :=
  ⟨fun pins s σ H R I h => thn (he.run pins s σ H _ I h) fun u s1 ⟨x, H1, I1, r1, q1⟩ => hv pins s1 σ H1 x u R I1 r1 q1⟩
theorem iter_list {tg : Expr} {pins : List (Addr × Obj)} {s : Shared} {σ : St} {H : Hp} {R : It → Hp → Prop} {a : Addr} {xs : List V} (I : Inv X pins σ H s) (hq : SqL X.K H a xs) (q : R (Itl X.K a) H) : wpAny (model X.prog X.w) X.A (pyIter (.ref a)) (PIE X pins σ tg R) X.xe s := by
  obtain ⟨its, rv, p, hz⟩ := I.list hq
  refine wpAny_pyIter_list p.isList ?_
  refine ⟨s.heap.objs.size, [s.heap.objs.size], _, _, H, rfl, I.kept (t' := s.toks) fun b o e => Heap.get?_push_of_some _ e, turn_list a _, ⟨_, Heap.get?_push_size _ rfl, rfl, rfl⟩, fun b hb => ?_, q⟩
  have e : b = s.heap.objs.size := by simpa using hb
  subst e
  exact I.fpOk (Nat.le_refl _) (I.hok.fresh (Nat.le_refl _))
theorem iter_tup {tg : Expr} {pins : List (Addr × Obj)} {s : Shared} {σ : St} {H : Hp} {R : It → Hp → Prop} {a : Addr} {xs : List V} (I : Inv X pins σ H s) (hq : SqT X.K H a xs) (q : R (Itt X.K a) H) : wpAny (model X.prog X.w) X.A (pyIter (.ref a)) (PIE X pins σ tg R) X.xe s := by
  obtain ⟨its, rv, p, hz⟩ := I.tuple hq
  refine wpAny_pyIter_tuple (show s.heap.IsTuple a its.toArray from p) ?_
  refine ⟨s.heap.objs.size, [s.heap.objs.size], _, _, H, rfl, I.kept (t' := s.toks) fun b o e => Heap.get?_push_of_some _ e, turn_tuple a _, ⟨_, Heap.get?_push_size _ rfl, rfl, rfl⟩, fun b hb => ?_, q⟩
  have e : b = s.heap.objs.size := by simpa using hb
  subst e
  exact I.fpOk (Nat.le_refl _) (I.hok.fresh (Nat.le_refl _))
theorem cpi_seq {tg e : Expr} {ca : CTE} (he : CPE X cl H0 C0 e ca) : CPI X cl H0 C0 tg e (iSeq ca) := ⟨fun pins s σ H R I ⟨σc, C, Qc, S, h, hq⟩ =>
  thn (he.run pins s σ H (fun v H1 => ∃ d C1 ds, Rep X.K H1 d v ∧ Rel X.K cl H1 C1 ∧ Keep H C H1 C1 ∧ (((d = .tup ds ∨ d = .rls ds) ∧ Qc ds (fun _ => True) C1) ∨ (∃ p, d = .ref p ∧ LsC C1 p ds ∧ Qc ds (fun C => LsC C p ds) C1))) I
    ⟨σc, C, _, S, h, fun d C1 v H1 ⟨ds, h1⟩ rv R1 k1 => ⟨d, C1, ds, rv, R1, k1, h1⟩⟩) fun u s1 ⟨v, H1, I1, r1, d, C1, ds, rv, R1, k1, h1⟩ => by
    rcases h1 with ⟨rfl | rfl, q⟩ | ⟨p, rfl, hl, q⟩
    · cases rv with
      | tup sq rr =>
        cases r1
        exact iter_tup I1 sq (hq _ _ _ _ _ q R1 k1 (itOk_tup sq rr R1))
    · cases rv with
      | rls sq rr =>
        cases r1
        exact iter_list I1 sq.sq (hq _ _ _ _ _ q R1 k1 (itOk_rls I1 sq rr R1))
    · cases rv
      cases r1
      obtain ⟨vs, sq, rr⟩ := R1.ls hl
      exact iter_list I1 sq (hq _ _ _ _ _ q R1 k1 itOk_lst')⟩
/-- a text, sign by sign -/
def iTxt (a : CTE) : CTI := fun σ C R => a σ C fun d C1 => ∃ z, d = .str z ∧ R (z.cps.toList.map fun c => .str ⟨#[c]⟩) (fun _ => True) C1
theorem cpi_txt {tg e : Expr} {ca : CTE} (he : CPE X cl H0 C0 e ca) : CPI X cl H0 C0 tg e (iTxt ca) :=
  (pi_str he).imp fun σ H R ⟨σc, C, Qc, S, h, hq⟩ => ⟨σc, C, _, S, h, fun d C1 v H1 ⟨z, h1, q⟩ rv R1 k1 => by
    subst h1
    cases rv
    refine ⟨z, rfl, hq _ _ _ _ _ q R1 k1 ⟨fun i H' C' k R' _ hi => ?_, fun i H' C' x H'' k R' _ ⟨e, c, hc, hx⟩ d hd => ?_, fun i H' C' k R' _ hi => ?_⟩⟩
    · show i < z.cps.size
      simpa using hi
    · subst e; subst hx
      rw [List.getElem?_map, Array.getElem?_toList, hc] at hd
      cases hd
      exact ⟨.str _, R', Keep.refl⟩
    · show z.cps.size ≤ i
      simpa using hi⟩
/-- range -/
def rngD (lo : Int) (n : Nat) : List D := (List.range n).map fun (i : Nat) => .int (lo + i)
def iRg1 (a : CTA) : CTI := fun σ C R => a σ C fun ds C1 => ∃ j : Int, ds = [.int j] ∧ -(2 ^ 62) ≤ j ∧ j < 2 ^ 62 ∧ R (rngD 0 j.toNat) (fun _ => True) C1
def iRg2 (a : CTA) : CTI := fun σ C R => a σ C fun ds C1 => ∃ i j : Int, ds = [.int i, .int j] ∧ (-(2 ^ 62) ≤ i ∧ i < 2 ^ 62 ∧ -(2 ^ 62) ≤ j ∧ j < 2 ^ 62) ∧ R (rngD i (j - i).toNat) (fun _ => True) C1
theorem itOk_rng {K : PySem.W.Frag} {lo : Int} {n : Nat} {H : Hp} {C : CH} : ItOk K cl H C (Itr lo n) (rngD lo n) (fun _ => True) where
  go := fun i H' C' k R' _ hi => by
    show i < n
    simpa [rngD] using hi
  yld := fun i H' C' x H'' k R' _ ⟨e, y⟩ d hd => by
    subst e; subst y
    unfold rngD at hd
    rw [List.getElem?_map] at hd
    cases q : (List.range n)[i]? with
    | none => rw [q] at hd; cases hd
    | some j =>
      rw [q] at hd
      have hj : j = i := by
        obtain ⟨hl, e⟩ := List.getElem?_eq_some_iff.mp q
        rw [List.getElem_range] at e
        exact e.symm
      subst hj
      cases hd
      exact ⟨.int _, R', Keep.refl⟩
  stop := fun i H' C' k R' _ hi => by
    show n ≤ i
    simpa [rngD] using hi
theorem cpi_rg1 {tg a : Expr} {ca : CTA} {p pos : Pos} (hg : Gl X "range") (hm : X.mg "range" = none) (ha : CPA X cl H0 C0 [a] ca) (hs : starEach [a] X.env = [(false, eval a X.env)]) : CPI X cl H0 C0 tg (.Call (.Name "range" p) [a] [] pos) (iRg1 ca) :=
  (pi_range1 hg hm ha hs).imp fun σ H R ⟨σc, C, Qc, S, h, hq⟩ => ⟨σc, C, _, S, h, fun ds C1 vs H1 ⟨j, h1, h2, h3, q⟩ rs R1 k1 => by
    subst h1
    obtain ⟨v, rfl, r⟩ := rs.one
    cases r
    exact ⟨j, rfl, h2, h3, hq _ _ _ _ _ q R1 k1 itOk_rng⟩⟩
theorem cpi_rg2 {tg a b : Expr} {ca : CTA} {p pos : Pos} (hg : Gl X "range") (hm : X.mg "range" = none) (ha : CPA X cl H0 C0 [a, b] ca) (hs : starEach [a, b] X.env = [(false, eval a X.env), (false, eval b X.env)]) (hs2 : starEach [b] X.env = [(false, eval b X.env)]) : CPI X cl H0 C0 tg (.Call (.Name "range" p) [a, b] [] pos) (iRg2 ca) :=
  (pi_range2 hg hm ha hs hs2).imp fun σ H R ⟨σc, C, Qc, S, h, hq⟩ => ⟨σc, C, _, S, h, fun ds C1 vs H1 ⟨i, j, h1, h2, q⟩ rs R1 k1 => by
    subst h1
    obtain ⟨v, u, rfl, r, r'⟩ := rs.two
    cases r; cases r'
    exact ⟨i, j, rfl, h2, hq _ _ _ _ _ q R1 k1 itOk_rng⟩⟩
end
end L3

/-! a def's promise where no repr is under way (the stack holds no guard): own forms of FnOk, fn_of, law_call, walk_ofB -/
namespace L3
open PySem L2 PyProof.Rows
section
variable {P : Program} {w : World} {K : PySem.W.Frag} {mg : Str → Option Value} {base : Heap} {CXx : CXT} {k : Nat} {f : Addr} {fd : FuncData} {ps : List Str} {sp : Sp}
structure FnOkG (P : Program) (w : World) (K : PySem.W.Frag) (mg : Str → Option Value) (base : Heap) (CXx : CXT) (k : Nat) (f : Addr) (fd : FuncData) (ps : List Str) (sp : Sp) : Prop where
  len : ∀ vs H Q E, sp vs H Q E → vs.length = ps.length
  run : ∀ (A : Around) (out : List Env) (s : Shared) (H : Hp) (as : Args) (us : List Value) (vs : List V) (Q : VK) (E : XK), Room k A → A.guards = some [] →
    Env0 P w K mg base A out s H → BindsTo s fd as (ps.zip us) → Vals vs us → sp vs H Q E → codeAny (model P w) A (.call (.ref f) as) (CR CXx out P w H s Q E) s
theorem FnOkG.imp {sp' : Sp} (F : FnOkG P w K mg base CXx k f fd ps sp) (h : ∀ vs H Q E, sp' vs H Q E → sp vs H Q E) : FnOkG P w K mg base CXx k f fd ps sp' :=
  ⟨fun _ _ _ _ q => F.len _ _ _ _ (h _ _ _ _ q), fun A out s H as us vs Q E hr hg e0 hb hv q => F.run A out s H as us vs Q E hr hg e0 hb hv (h _ _ _ _ q)⟩
theorem guards_deeper {A : Around} {env : Env} : (A.deeper env).guards = A.guards := rfl
theorem guards_make {A : Around} {C : Addr} {us : List Value} {kw : List (Str × Value)} : (A.under (.builtin "type.__call__" ⟨.ref C :: us, kw⟩)).guards = A.guards := by
  have e : (Code.builtin "type.__call__" ⟨.ref C :: us, kw⟩).guards = [] := if_neg (by show ¬ guardIds.contains "type.__call__" = true; decide)
  unfold Around.under
  simp only [e]
  rfl
/-- the rule for a def, by its body -/
theorem fn_ofG {name qual : Str} {params : Arguments} {body : List Stmt} {scope : Scope} {dV kV doc pm cdv ct oc : Value} {an od : Option Addr} {osl : Array (Option Value)} {N : List Str}
    (lk : K.lookup f = some ⟨oc, od, .func (PySem.W.fnOf name qual params body scope dV kV doc pm an cdv ct), osl⟩) (hcd : PySem.W.codeIn K cdv qual = true) (S : FnScope N ps scope) (len : ∀ vs H Q E, sp vs H Q E → vs.length = ps.length)
    (hb : ∀ (A : Around) (out : List Env) (s : Shared) (H : Hp) (vs : List V) (Q : VK) (E : XK), Room k (A.deeper (envOfC qual scope s.heap.objs.size f cdv)) → A.guards = some [] → sp vs H Q E →
      ∃ t, PSs (cxOf CXx P w K mg base N qual scope f cdv A out s H E) body t ∧ t { nx := fun _ H' => Q .non H', rt := Q } (start N vs) H) :
    FnOkG P w K mg base CXx (k + 1) f (PySem.W.fnOf name qual params body scope dV kV doc pm an cdv ct) ps sp := ⟨len, fun A out s H as us vs Q E room hg e0 bind rv hsp => by
  have inK := e0.mod.kin.keeps fun b o q => (e0.bs b o q).1
  have noLim := e0.mod.nolimit.keeps fun b o q => (e0.bs b o q).1
  have kinds : ∀ y ∈ ps.zip us, scope.names.lookup y.1 = some .local ∨ (scope.names.lookup y.1 = some .cell ∧ ((cellsFrom (s.heap.objs.size + 1) scope.names []).lookup y.1).isSome = true) := by
    rintro ⟨n, v⟩ hy
    refine (S.par n (List.of_mem_zip hy).1).imp id fun q => ⟨q, ?_⟩
    exact PySem.W.cellsFrom_some _ _ _ (.inl q)
  refine codeAny_call_function room.depth (inK _ _ lk) rfl S.co S.gen rfl (PySem.W.codeRec_of inK hcd) (bind _ _ _ _ (wpAny_newFunctionEnv_cells S.kind kinds fun env he s1 x => ?_))
  subst he
  obtain ⟨t, ht, hq⟩ := hb A out s H vs Q E (room.deeper _) hg hsp
  refine ⟨noLim.keeps x.toInCall.keep, codeAny_func (wpAny_mono (ht.run [] s1 _ H _ (inv_start S room.hd e0 (len _ _ _ _ hsp) rv x) hq) (fun fl s' hs => ?_) fun e s' hs => hs)⟩
  cases fl with
  | next =>
    obtain ⟨σ', H', J, q⟩ := hs
    exact ⟨V.non, H', J.os, J.bare, J.base, J.hok, rfl, q⟩
  | ret u =>
    obtain ⟨v, σ', H', J, rv', q⟩ := hs
    exact ⟨v, H', J.os, J.bare, J.base, J.hok, rv', q⟩
  | brk => exact hs.elim fun _ h => h.elim fun _ h => h.2.elim
  | cont => exact hs.elim fun _ h => h.elim fun _ h => h.2.elim⟩
end
/-- the law's call, from its def's promise -/
theorem law_callG {P : Program} {w : World} {K : PySem.W.Frag} {mg mb : Str → Option Value} {CXx : CXT} {k : Nat} {fa a : Addr} {fd : FuncData} {x : Str} {sp : Sp} {s₁ : Shared} {vs : List Value} {ns : List Int} (KX : K.In s₁.heap) (hns : s₁.heap.Ns mainGlobals mg)
    (hbn : s₁.heap.Ns builtinsNs mb) (hbb : ∀ y : Str, y ≠ "__name__" → mb y = bootBuiltins y) (lim : s₁.heap.NoLimit) (gens : s₁.gens = #[]) (ha : s₁.heap.get? a = some { cls := .type "list", data := .seq vs.toArray }) (hi : IntsAre vs ns) (hl : ns.length ≤ sizeLine)
    (room : Room k callerA) (F : ∀ base : Heap, K.In base → base.Ns mainGlobals mg → FnOkG P w K mg base CXx k fa fd [x] sp) (bind : ∀ (s : Shared) (u : Value), BindsTo s fd ⟨[u], []⟩ [(x, u)])
    (hsp : ∀ H : Hp, Only H → SqL K H a (ns.map V.int) → sp [.ref a] H (fun v _ => v = .bl true) fun _ _ _ => False) (hCX : ∀ H e s', CXx [] H s₁ (fun _ _ _ => False) e s' → False) :
    codeAny (model P w) callerA (.call (.ref fa) ⟨[.ref a], []⟩) (fun r s' => r = .ok (.ret (.bool true)) ∧ OldK s₁.heap s'.heap ∧ s'.os = s₁.os ∧ AllBare s'.gens) s₁ := by
  have rv := vals_ints hi
  have lenV := hi.length
  have main : ∀ H : Hp, Only H → SqL K H a (ns.map V.int) → HOk P w H s₁.heap → (∀ b u, H b = some u → b = a ∧ K.lookup a = none) →
      codeAny (model P w) callerA (.call (.ref fa) ⟨[.ref a], []⟩) (fun r s' => r = .ok (.ret (.bool true)) ∧ OldK s₁.heap s'.heap ∧ s'.os = s₁.os ∧ AllBare s'.gens) s₁ := by
    intro H only sq hok one
    have hid : ∀ {b : Addr} {o : Obj}, s₁.heap.get? b = some o → H b = none → (hidT s₁.heap H).get? b = some o := fun e n => hidT_get e n
    have hids : ∀ {b : Addr} {m : Str → Option Value}, s₁.heap.Ns b m → (hidT s₁.heap H).Ns b m := by
      rintro b m ⟨o, es, ep, e, d, r⟩
      refine ⟨o, es, ep, hid e ?_, d, r⟩
      cases q : H b with
      | none => rfl
      | some u =>
        have e' := (one b u q).1
        rw [e', ha] at e
        cases e
        have z : Data.seq vs.toArray _ = Data.dict es ep := d
        cases z
    have hKb : K.In (hidT s₁.heap H) := fun b o e => hid (KX b o e) (by
      cases q : H b with
      | none => rfl
      | some u =>
        obtain ⟨e', z⟩ := one b u q
        rw [e', z] at e
        cases e)
    have e0 : Env0 P w K mg (hidT s₁.heap H) callerA [] s₁ H := by
      refine ⟨rfl, ⟨hKb, hids hns, ⟨mb, hids hbn, hbb⟩, ?_⟩, fun b o e => of_hidT e, Nat.le_of_eq (hidT_size _ _), trivial, fun b hb => (nomatch (show b ∈ ([] : List Addr) from hb)), hok, .of_eq gens⟩
      obtain ⟨mc, h1, h2⟩ := lim
      exact ⟨mc, hids h1, h2⟩
    refine codeAny_mono ((F _ hKb (hids hns)).run callerA [] s₁ H _ [.ref a] [.ref a] _ _ room rfl e0 (bind s₁ (.ref a)) (.cons rfl .nil) (hsp H only sq)) fun r s' h => ?_
    match r, h with
    | .error e, h => exact (hCX H e s' h).elim
    | .ok (.ret u), ⟨v, H', os, bare, un, hok', r', q⟩ =>
      have q' : v = .bl true := q
      subst q'
      cases (show u = Value.bool true from r')
      refine ⟨rfl, OldK.of_keep fun b o e => ?_, os, bare⟩
      cases q : H b with
      | none => exact un.keep b o e q (fun z => (nomatch (show b ∈ ([] : List Addr) from z))) (by simp)
      | some u =>
        rcases only b with z | ⟨ob, xs, z⟩
        · rw [z] at q; cases q
        · have e1 := (hok b _ z).1
          have e2 := (hok' b _ (un.frzs b ob _ z)).1
          rw [e1] at e; cases e
          exact e2
  cases hk : K.lookup a with
  | some o =>
    have e := KX a o hk
    rw [ha] at e
    cases e
    refine main (fun _ => none) (fun _ => .inl rfl) (.inr ⟨_, vs.toArray, _, hk, rfl, rfl, rfl, ?_, by simpa using rv⟩) (fun b u z => nomatch (show (none : Option HO) = some u from z)) (fun b u z => nomatch (show (none : Option HO) = some u from z))
    rw [List.size_toArray, lenV]; exact hl
  | none =>
    have at_ : ∀ b u, (if b = a then some (HO.frz { cls := .type "list", data := .seq vs.toArray } (.lst (ns.map V.int))) else none) = some u → b = a ∧ u = HO.frz { cls := .type "list", data := .seq vs.toArray } (.lst (ns.map V.int)) := fun b u z => by
      by_cases h : b = a
      · rw [if_pos h] at z; cases z; exact ⟨h, rfl⟩
      · rw [if_neg h] at z; cases z
    refine main (fun b => if b = a then some (.frz { cls := .type "list", data := .seq vs.toArray } (.lst (ns.map V.int))) else none) (fun b => ?_) (.inl (.inr ⟨_, if_pos rfl⟩)) (fun b u z => ?_) fun b u z => ⟨(at_ b u z).1, hk⟩
    · by_cases h : b = a
      · exact .inr ⟨_, _, if_pos h⟩
      · exact .inl (if_neg h)
    · obtain ⟨rfl, rfl⟩ := at_ b u z
      exact ⟨ha, by rw [List.length_map]; exact hl, vs, _, rv, ha⟩
theorem walk_ofG {l : PySem.W.OpenLaw} {n k : Nat} {q : Program} {loose : List Str} {XP : (Str → Option Value) → Heap → Prop} {YP : World → Heap → Prop} {d : DefRec} {K : Params → PySem.W.Frag} {CXx : World → CXT} {sp : World → Sp} {x : Str}
    (most : l.most = some n) (small : n ≤ sizeLine) (hdf : d.params.defaults = []) (room : Room k callerA) (hY : ∀ (w : World) (h : Heap), YP w h → (K w.params).In h)
    (F : ∀ (w : World) (mg : Str → Option Value) (fa : Addr) (h : Heap), (K w.params).In h → h.Ns mainGlobals mg → mg d.name = some (.ref fa) → ∃ fd : FuncData, (∀ (s : Shared) (u : Value), BindsTo s fd ⟨[u], []⟩ [(x, u)]) ∧
      ∀ base : Heap, (K w.params).In base → base.Ns mainGlobals mg → FnOkG l.prog w (K w.params) mg base (CXx w) k fa fd [x] (sp w))
    (hsp : ∀ (w : World) (H : Hp) (a : Addr) (ns : List Int), ns.length ≤ n → (∀ z ∈ ns, Builtin.Int.intBits z ≤ 1048576) → Only H → SqL (K w.params) H a (ns.map V.int) → sp w [.ref a] H (fun v _ => v = .bl true) fun _ _ _ => False)
    (hCX : ∀ (w : World) (H : Hp) (s : Shared) (e : Value) (s' : Shared), CXx w [] H s (fun _ _ _ => False) e s' → False) : PySem.W.WalkO q loose XP YP l.row.toRowW d [] (fun f vs => PySem.call f vs) := by
  refine Att.attach_callB most hdf fun w s₀ s₁ mg mb fa o pm cd doc a vs ns G Y _ _ _ named obj hint len bits gens => ?_
  obtain ⟨fd, hb, hF⟩ := F w mg fa _ (hY w _ Y) G.T.g named
  refine law_callG (hY w _ Y) G.T.g G.T.b G.T.builtins G.T.nolimit gens obj hint (Nat.le_trans len small) room hF hb (fun H only sq => hsp w H a ns len bits only sq) fun H e s' => hCX w H s₁ e s'
end L3

namespace L3
open PySem L2
/-! ### syntax -/
def notStar : Expr → Bool
  | .Starred .. => false
  | _ => true
theorem star_of {e : Expr} {es : List Expr} {env : Env} (h : notStar e = true) : starEach (e :: es) env = (false, eval e env) :: starEach es env := by
  cases e <;> first | rfl | cases h
theorem star_any {env : Env} {pos : Pos} : ∀ {es : List Expr}, es.all notStar = true → (backTo pos (starEach es env)).any (·.1) = false
  | [], _ => rfl
  | e :: es, h => by
    rw [List.all_cons, Bool.and_eq_true] at h
    rw [star_of h.1]
    show (false || (backTo pos (starEach es env)).any (·.1)) = false
    rw [star_any h.2]; rfl
theorem kw_names {env : Env} {pos : Pos} : ∀ (kws : List Keyword), (backToKw pos (keywordEach kws env)).map (·.1) = kws.map fun k => match k with | ⟨n, _, _⟩ => n
  | [] => rfl
  | ⟨n, v, p⟩ :: r => by
    show n :: (backToKw pos (keywordEach r env)).map (·.1) = n :: _
    rw [kw_names r]
/-- the keywords' names: all are written -/
def kwNames : List Keyword → Option (List Str)
  | [] => some []
  | ⟨some n, _, _⟩ :: r => (kwNames r).map (n :: ·)
  | _ => none
theorem kw_ok {env : Env} {pos : Pos} : ∀ {kws : List Keyword} {ks : List Str}, kwNames kws = some ks → (backToKw pos (keywordEach kws env)).all (·.1.isSome) = true ∧ (backToKw pos (keywordEach kws env)).filterMap (·.1) = ks ∧ (backToKw pos (keywordEach kws env)).any (·.1.isNone) = false
  | [], _, h => by cases h; exact ⟨rfl, rfl, rfl⟩
  | ⟨none, _, _⟩ :: _, _, h => by cases h
  | ⟨some n, v, p⟩ :: r, ks, h => by
    obtain ⟨ks', h1, h2⟩ := Option.map_eq_some_iff.mp (show (kwNames r).map (n :: ·) = some ks from h)
    obtain ⟨a, b, c⟩ := kw_ok (env := env) (pos := pos) h1
    subst h2
    refine ⟨?_, ?_, ?_⟩
    · show (true && (backToKw pos (keywordEach r env)).all (·.1.isSome)) = true
      rw [a]; rfl
    · show n :: (backToKw pos (keywordEach r env)).filterMap (·.1) = n :: ks'
      rw [b]
    · show (false || (backToKw pos (keywordEach r env)).any (·.1.isNone)) = false
      rw [c]; rfl
/-! ### a call's arguments, whatever their form -/
/-- what the arguments and keywords give -/
def tArgs (es : List Expr) (t tk : TA) : St → Hp → (List V → List V → Hp → Prop) → Prop := fun σ H Q => match es with
  | [] => tk σ H fun zs H2 => Q [] zs H2
  | _ :: _ => t σ H fun vs H1 => tk σ H1 fun zs H2 => Q vs zs H2
section
variable {X : Cx} {cl : ClsT} {H0 : Hp} {C0 : CH}
theorem call_args {fv : Value} {first : List Value} {es : List Expr} {kws : List Keyword} {ks : List Str} {t tk : TA} {pos : Pos} {pins : List (Addr × Obj)} {s : Shared} {σ : St} {H : Hp} {Q : Value → Shared → Prop}
    (hk : PySem.W.keepIn X.K fv = true) (hes : es.all notStar = true) (hks : kwNames kws = some ks) (ha : PA X es t) (hkw : PK X kws tk) (I : Inv X pins σ H s)
    (h : tArgs es t tk σ H fun vs zs H2 => ∀ s2 us ws, Inv X pins σ H2 s2 → Vals vs us → Vals zs ws → wpAny (model X.prog X.w) X.A (call fv (first ++ us) (ks.zip ws)) Q X.xe s2) :
    wpAny (model X.prog X.w) X.A (callWith pos fv first (backTo pos (starEach es X.env)) (backToKw pos (keywordEach kws X.env))) Q X.xe s := by
  obtain ⟨k1, k2, k3⟩ := kw_ok (env := X.env) (pos := pos) hks
  have hpl : ((backTo pos (starEach es X.env)).any (·.1) || (backToKw pos (keywordEach kws X.env)).any (·.1.isNone)) = false := by rw [star_any hes, k3]; rfl
  cases es with
  | nil =>
    refine PySem.W.callWith_KW0 (h₀ := X.base) I.ok.mod.kin hk k1 ?_ hpl
    refine thn (hkw.run pos pins s σ H _ I h) fun ws s2 ⟨zs, H2, I2, rz, q2⟩ => ⟨I2.kIn, ?_⟩
    rw [k2]
    exact q2 s2 [] ws I2 .nil rz
  | cons e rest =>
    rw [List.all_cons, Bool.and_eq_true] at hes
    refine PySem.W.callWith_KW (h₀ := X.base) I.ok.mod.kin hk k1 (thn (ha.run pos pins s σ H _ I h) fun us s1 ⟨vs, H1, I1, r, q⟩ => ?_) hpl (star_of hes.1)
    refine thn (hkw.run pos pins s1 σ H1 _ I1 q) fun ws s2 ⟨zs, H2, I2, rz, q2⟩ => ⟨I2.kIn, ?_⟩
    rw [k2]
    exact q2 s2 us ws I2 r rz
/-- a def runs at values, what it raises is wished for at the slots -/
theorem run_at {k : Nat} {f : Addr} {fd : FuncData} {ps : List Str} {sp : Sp} {E : St → XK} {CX : CXT} {pins : List (Addr × Obj)} {σ : St} {H : Hp} {s : Shared} {Q : VK} {args : Args} {us : List Value} {vs : List V} (F : FnOkG X.prog X.w X.K X.mg X.base CX k f fd ps sp) (hr : Room k X.A) (hg : X.A.guards = some [])
    (hb : BindsTo s fd args (ps.zip us)) (hx : PassesAt CX X σ (E σ)) (I : Inv X pins σ H s) (r : Vals vs us) (h : sp vs H Q (E σ)) : wpAny (model X.prog X.w) X.A (call (.ref f) args.pos args.kw) (EP X pins σ Q) X.xe s := by
  refine wpAny_call (codeAny_mono (F.run X.A X.stack s H args us vs Q (E σ) hr hg I.env0 hb r h) fun res s' hq => ?_)
  match res, hq with
  | .error e, hq => exact hx pins H s e s' I hq
  | .ok (.ret u), hq => exact I.after hq
/-- a class is called: the new instance, then its __init__ -/
theorem make_at {k : Nat} {f C : Addr} {fd : FuncData} {ps : List Str} {sp : Sp} {E : St → XK} {CX : CXT} {pins : List (Addr × Obj)} {σ : St} {H : Hp} {s : Shared} {Q : VK} {us : List Value} {kw : List (Str × Value)} (M : Mk X.K C f) (F : FnOkG X.prog X.w X.K X.mg X.base CX k f fd ps sp) (hr : Room (k + 1) X.A) (hg : X.A.guards = some [])
    (hx : PassesAt CX X σ (E σ)) (I : Inv X pins σ H s)
    (h : ∀ x dx s2, H x = none → H dx = none → dx ≠ x → Inv X pins σ (upd (upd H dx (.own x)) x (.ins C dx [])) s2 → ∃ vs' us', BindsTo s2 fd ⟨.ref x :: us, kw⟩ (ps.zip us') ∧ Vals vs' us' ∧ sp vs' (upd (upd H dx (.own x)) x (.ins C dx [])) (fun v H2 => v = .non ∧ Q (.ref x) H2) (E σ)) :
    wpAny (model X.prog X.w) X.A (call (.ref C) us kw) (EP X pins σ Q) X.xe s := by
  have I2 := Inv.made (C := C) I
  obtain ⟨vs', us', hb, r, q⟩ := h (s.heap.objs.size + 1) s.heap.objs.size _ (I.hok.fresh (Nat.le_succ _)) (I.hok.fresh (Nat.le_refl _)) (Nat.ne_of_lt (Nat.lt_succ_self _)) I2
  have run := F.run (X.A.under (.builtin "type.__call__" ⟨.ref C :: us, kw⟩)) X.stack _ _ _ us' vs' _ (E σ) (hr.make C us kw) (guards_make.trans hg) (I2.env0.make C us kw) hb r q
  refine wpAny_call (make_map (f := f) I.kIn M.makes M.init (beq_iff_eq.mp M.fn) (codeAny_mono run fun res s' hq => ?_))
  match res, hq with
  | .error e, hq => exact hx pins _ _ e s' I2 hq
  | .ok (.ret u), hq =>
    obtain ⟨v, H', I3, rv, ev, q3⟩ := I2.after hq
    subst ev
    exact ⟨rv, V.ref (s.heap.objs.size + 1), H', I3, rfl, q3⟩
end
/-! ### what a def promises -/
abbrev SemF := List D → CH → Kv → Kx → Prop
def spC (K : PySem.W.Frag) (cl : ClsT) (np : Nat) (sem : SemF) : Sp := fun vs H Q E => ∃ ds C Qc Ec, RepL K H ds vs ∧ ds.length = np ∧ Rel K cl H C ∧ sem ds C Qc Ec ∧ EndE K cl H C Qc Q ∧
  (∀ x C' cls d H', Ec x C' → XRel K cl H' x cls d → Rel K cl H' C' → Keep H C H' C' → E cls d H')
/-- where a parameter's value comes from: the j-th positional value, the j-th keyword's, a default -/
inductive Src where
  | pos (j : Nat) | kw (j : Nat) | dfl (d : D)
def Src.get (ds es : List D) : Src → D
  | .pos j => ds.getD j .non
  | .kw j => es.getD j .non
  | .dfl d => d
def gath (g : List Src) (ds es : List D) : List D := g.map (Src.get ds es)
/-- how a def binds such a call: n positional values, keywords ks -/
def BindsC (K : PySem.W.Frag) (fd : FuncData) (ps : List Str) (n : Nat) (ks : List Str) (g : List Src) : Prop :=
  ∃ (gv : List Value → List Value → List Value) (gV : List V → List V → List V), (∀ (s : Shared) (us ws : List Value), K.In s.heap → us.length = n → ws.length = ks.length → BindsTo s fd ⟨us, ks.zip ws⟩ (ps.zip (gv us ws))) ∧
    (∀ {vs us zs ws}, Vals vs us → Vals zs ws → Vals (gV vs zs) (gv us ws)) ∧ ∀ H ds vs es zs, ds.length = n → es.length = ks.length → RepL K H ds vs → RepL K H es zs → RepL K H (gath g ds es) (gV vs zs)
section
variable {X : Cx} {cl : ClsT} {H0 : Hp} {C0 : CH}
def CPK (X : Cx) (cl : ClsT) (H0 : Hp) (C0 : CH) (kws : List Keyword) (c : CTA) : Prop := PK X kws (tA X.K cl H0 C0 c)
theorem cpk_nil : CPK X cl H0 C0 [] cNil := ⟨fun pos pins s σ H Q I ⟨σc, C, Qc, S, h, hq⟩ => pk_nil.run pos pins s σ H Q I (hq _ _ _ _ h .nil S.r Keep.refl)⟩
theorem cpk_cons {e : Expr} {ca : CTE} {cs : CTA} {kws : List Keyword} {nm : Option Str} {kpos : Pos} (ha : CPE X cl H0 C0 e ca) (hr : CPK X cl H0 C0 kws cs) : CPK X cl H0 C0 (⟨nm, e, kpos⟩ :: kws) (cCons ca cs) :=
  ⟨fun pos pins s σ H Q I ⟨σc, C, Qc, S, h, hq⟩ => (pk_cons ha hr).run pos pins s σ H Q I ⟨σc, C, _, S, h, fun d C1 v H1 h1 rv R1 k1 => ⟨σc, C1, _, S.step k1 R1, h1, fun ds C2 vs H2 h2 rs R2 k2 =>
    hq _ _ _ _ h2 (.cons (rv.keep R1 k2) rs) R2 (k1.trans k2)⟩⟩⟩
/-- both lists of arguments, by data -/
def cArgs (a k : CTA) : Env3 → CH → (List D → List D → CH → Prop) → Prop := fun σ C Q => a σ C fun ds C1 => k σ C1 fun es C2 => Q ds es C2
theorem tArgs_of {es : List Expr} {kws : List Keyword} {ca ck : CTA} (h0 : es = [] → ca = cNil) {σ : St} {H : Hp} {σc : Env3} {C : CH} {Qc : List D → List D → CH → Prop} {Q : List V → List V → Hp → Prop} (S : S3 X.K cl H0 C0 σ H σc C) (h : cArgs ca ck σc C Qc)
    (hq : ∀ ds zs C' vs ws H', Qc ds zs C' → RepL X.K H' ds vs → RepL X.K H' zs ws → Rel X.K cl H' C' → Keep H C H' C' → Q vs ws H') : tArgs es (tA X.K cl H0 C0 ca) (tA X.K cl H0 C0 ck) σ H Q := by
  cases es with
  | nil =>
    rw [h0 rfl] at h
    exact ⟨σc, C, _, S, h, fun zs C' ws H' q r R k => hq [] zs C' [] ws H' q .nil r R k⟩
  | cons e es =>
    exact ⟨σc, C, _, S, h, fun ds C1 vs H1 h1 rs R1 k1 => ⟨σc, C1, _, S.step k1 R1, h1, fun zs C2 ws H2 h2 rz R2 k2 => hq ds zs C2 vs ws H2 h2 (rs.keep R1 k2) rz R2 (k1.trans k2)⟩⟩
/-- f(..) of a def -/
def cCall (sem : SemF) (np n m : Nat) (g : List Src) (ex : Kxs) (a k : CTA) : CTE := fun σ C Q => cArgs a k σ C fun ds es C1 => ds.length = n ∧ es.length = m ∧ (gath g ds es).length = np ∧ sem (gath g ds es) C1 Q fun x C' => ex x σ C'
theorem cpe_call {k np n : Nat} {f : Addr} {fd : FuncData} {ps ks : List Str} {sem : SemF} {g : List Src} {ex : Kxs} {x : Str} {p pos : Pos} {es : List Expr} {kws : List Keyword} {ca ck : CTA}
    (F : FnOkG X.prog X.w X.K X.mg X.base (L2.CX X.prog X.w) k f fd ps (spC X.K cl np sem)) (hr : Room k X.A) (hgd : X.A.guards = some []) (hg : Gl X x) (hm : X.mg x = some (.ref f)) (hk : PySem.W.keepIn X.K (.ref f) = true) (hb : BindsC X.K fd ps n ks g) (tk : Takes X (WC X.K cl H0 C0 ex))
    (hes : es.all notStar = true) (hks : kwNames kws = some ks) (ha : CPA X cl H0 C0 es ca) (hkw : CPK X cl H0 C0 kws ck) (h0 : es = [] → ca = cNil) (hdb : (x == ("__debug__" : Str)) = false) : CPE X cl H0 C0 (.Call (.Name x p) es kws pos) (cCall sem np n ks.length g ex ca ck) := by
  refine ⟨fun pins s σ H Q I ⟨σc, C, Qc, S, h, hq⟩ => ?_⟩
  refine wpAny_Call_Name_kw (ld_glob I hg hm ?_ hdb)
  obtain ⟨gv, gV, b1, b2, b3⟩ := hb
  refine call_args (first := []) hk hes hks ha hkw I (tArgs_of (kws := kws) h0 S h fun ds zs C' vs ws H' ⟨l1, l2, l3, q⟩ r1 r2 R' k' s2 us ws' I2 rv rw' => ?_)
  have e1 : us.length = n := by rw [← rv.length, ← r1.length, l1]
  have e2 : ws'.length = ks.length := by rw [← rw'.length, ← r2.length, l2]
  exact run_at (args := ⟨us, ks.zip ws'⟩) (E := WE (WC X.K cl H0 C0 ex)) F hr hgd (b1 s2 us ws' I2.kIn e1 e2) (passAt tk σ) I2 (b2 rv rw') ⟨_, C', Qc, _, b3 H' ds vs zs ws l1 l2 r1 r2, l3, R', q, hq.from_ k', fun x C'' cls d H'' hx xr R'' k'' => ⟨x, σc, C'', hx, xr, S.step (k'.trans k'') R''⟩⟩
/-- C(..) of a class with an own __init__ -/
def cMake (c : Nat) (sem : SemF) (np n m : Nat) (g : List Src) (ex : Kxs) (a k : CTA) : CTE := fun σ C Q => cArgs a k σ C fun ds es C1 => ds.length = n ∧ es.length = m ∧ ∀ p, C1 p = none → (gath g (.ref p :: ds) es).length = np ∧
  sem (gath g (.ref p :: ds) es) (cup C1 p (.ins c [])) (fun v C2 => v = .non ∧ Q (.ref p) C2) fun x C' => ex x σ C'
theorem cpe_make {k np n c : Nat} {f Ca : Addr} {fd : FuncData} {ps ks : List Str} {sem : SemF} {g : List Src} {ex : Kxs} {x : Str} {p pos : Pos} {es : List Expr} {kws : List Keyword} {ca ck : CTA} (hc : cl c = some Ca)
    (M : Mk X.K Ca f) (F : (∀ ds C Q E, ¬ sem ds C Q E) ∨ (FnOkG X.prog X.w X.K X.mg X.base (L2.CX X.prog X.w) k f fd ps (spC X.K cl np sem) ∧ Room (k + 1) X.A)) (hgd : X.A.guards = some []) (hg : Gl X x) (hm : X.mg x = some (.ref Ca)) (hb : BindsC X.K fd ps (n + 1) ks g) (tk : Takes X (WC X.K cl H0 C0 ex))
    (hes : es.all notStar = true) (hks : kwNames kws = some ks) (ha : CPA X cl H0 C0 es ca) (hkw : CPK X cl H0 C0 kws ck) (h0 : es = [] → ca = cNil) (hdb : (x == ("__debug__" : Str)) = false) : CPE X cl H0 C0 (.Call (.Name x p) es kws pos) (cMake c sem np n ks.length g ex ca ck) := by
  refine ⟨fun pins s σ H Q I ⟨σc, C, Qc, S, h, hq⟩ => ?_⟩
  refine wpAny_Call_Name_kw (ld_glob I hg hm ?_ hdb)
  obtain ⟨gv, gV, b1, b2, b3⟩ := hb
  refine call_args (first := []) M.kp hes hks ha hkw I (tArgs_of (kws := kws) h0 S h fun ds zs C' vs ws H' ⟨l1, l2, q⟩ r1 r2 R' k' s2 us ws' I2 rv rw' => ?_)
  have e1 : us.length = n := by rw [← rv.length, ← r1.length, l1]
  have e2 : ws'.length = ks.length := by rw [← rw'.length, ← r2.length, l2]
  rcases F with F | ⟨F, hr⟩
  · exact (F _ _ _ _ (q s2.heap.objs.size (free_of R' (I2.hok.fresh (Nat.le_refl _)))).2).elim
  refine make_at (us := us) (kw := ks.zip ws') (E := WE (WC X.K cl H0 C0 ex)) M F hr hgd (passAt tk σ) I2 fun a da s3 n1 n2 ne I3 => ?_
  have R1 : Rel X.K cl (upd H' da (.own a)) C' := R'.newH n2 _
  have n3 : (upd H' da (.own a)) a = none := by rw [upd_ne ne.symm]; exact n1
  have R2 : Rel X.K cl (upd (upd H' da (.own a)) a (.ins Ca da [])) (cup C' a (.ins c [])) := R1.new n3 _ _ ⟨Ca, da, [], hc, upd_same, .nil⟩
  have kk : Keep H' C' (upd (upd H' da (.own a)) a (.ins Ca da [])) (cup C' a (.ins c [])) := (keep_newH n2 _ R').trans (Keep.new n3 R1 _ _)
  obtain ⟨l3, q⟩ := q a (free_of R' n1)
  refine ⟨_, _, b1 s3 (.ref a :: us) ws' I3.kIn (by rw [List.length_cons, e1]) e2, b2 (.cons (show RelV (V.ref a) (Value.ref a) from rfl) rv) rw', _, _, _, _, b3 _ (.ref a :: ds) (.ref a :: vs) zs ws (by rw [List.length_cons, l1]) l2 (.cons (.ref a) (r1.keep R' kk)) (r2.keep R' kk), l3, R2, q, fun d C3 v H3 ⟨e3, q3⟩ r3 R3 k3 => ?_, fun x C'' cls d H'' hx xr R'' k'' => ⟨x, σc, C'', hx, xr, S.step ((k'.trans kk).trans k'') R''⟩⟩
  subst e3
  cases r3
  exact ⟨rfl, hq _ _ _ _ q3 (.ref a) R3 ((k'.trans kk).trans k3)⟩
/-- o.m(..) of an instance of the class c -/
def cMeth (c : Nat) (m : Str) (sem : SemF) (np n k : Nat) (g : List Src) (ex : Kxs) (o : CTE) (a kw : CTA) : CTE := fun σ C Q => o σ C fun d C1 => ∃ p fs, d = .ref p ∧ C1 p = some (.ins c fs) ∧ fs.lookup m = none ∧
  cArgs a kw σ C1 fun ds es C2 => ds.length = n ∧ es.length = k ∧ (gath g (.ref p :: ds) es).length = np ∧ sem (gath g (.ref p :: ds) es) C2 Q fun x C' => ex x σ C'
theorem cpe_meth {pl : Sem Bool} {k np n c : Nat} {f Ca : Addr} {fd : FuncData} {ps ks : List Str} {sem : SemF} {g : List Src} {ex : Kxs} {m : Str} {o : Expr} {apos pos : Pos} {es : List Expr} {kws : List Keyword} {co : CTE} {ca ck : CTA} (hc : cl c = some Ca)
    (ho : CPE X cl H0 C0 o co) (cls : Cls X.K Ca) (hm : Meth X.K Ca m f) (F : FnOkG X.prog X.w X.K X.mg X.base (L2.CX X.prog X.w) k f fd ps (spC X.K cl np sem)) (hr : Room k X.A) (hgd : X.A.guards = some []) (hb : BindsC X.K fd ps (n + 1) ks g) (tk : Takes X (WC X.K cl H0 C0 ex))
    (hes : es.all notStar = true) (hks : kwNames kws = some ks) (ha : CPA X cl H0 C0 es ca) (hkw : CPK X cl H0 C0 kws ck) (h0 : es = [] → ca = cNil)
    (ht : eval (.Call (.Attribute o m apos) es kws pos) X.env = (do
      let ov ← eval o X.env
      standAt apos.atName
      let (f, first) ← holding [ov] (getMethod ov m pl)
      callWith pos f first (backTo pos (starEach es X.env)) (backToKw pos (keywordEach kws X.env)))) : CPE X cl H0 C0 (.Call (.Attribute o m apos) es kws pos) (cMeth c m sem np n ks.length g ex co ca ck) := by
  refine ⟨fun pins s σ H Q I ⟨σc, C, Qc, S, h, hq⟩ => ?_⟩
  refine PySem.W.methodCall_KW (pl := pl) (thn (ho.run pins s σ H (fun v H1 => ∃ a C1 fs, v = .ref a ∧ Rel X.K cl H1 C1 ∧ Keep H C H1 C1 ∧ C1 a = some (.ins c fs) ∧ fs.lookup m = none ∧ cArgs ca ck σc C1 fun ds es C2 => ds.length = n ∧ es.length = ks.length ∧ (gath g (.ref a :: ds) es).length = np ∧ sem (gath g (.ref a :: ds) es) C2 Qc fun x C' => ex x σc C') I
    ⟨σc, C, _, S, h, fun d C1 v H1 ⟨a, fs, e, e1, e2, q⟩ rv R1 k1 => by subst e; cases rv; exact ⟨a, C1, fs, rfl, R1, k1, e1, e2, q⟩⟩) fun u s1 ⟨v, H1, I1, rv, a, C1, fs, ev, R1, k1, e1, e2, q⟩ => ?_) ht
  subst ev
  cases rv
  obtain ⟨Ca', dx, fv, hc', e3, rf⟩ := R1 a _ e1
  rw [hc] at hc'
  cases hc'
  refine getmeth_ok I1 e3 cls hm (rf.lookup_none e2) ?_
  obtain ⟨gv, gV, b1, b2, b3⟩ := hb
  have S1 := S.step k1 R1
  refine call_args (first := [.ref a]) hm.kp hes hks ha hkw I1 (tArgs_of (kws := kws) h0 S1 q fun ds zs C' vs ws H' ⟨l1, l2, l3, q⟩ r1 r2 R' k' s2 us ws' I2 rv rw' => ?_)
  have e4 : us.length = n := by rw [← rv.length, ← r1.length, l1]
  have e5 : ws'.length = ks.length := by rw [← rw'.length, ← r2.length, l2]
  exact run_at (args := ⟨.ref a :: us, ks.zip ws'⟩) (E := WE (WC X.K cl H0 C0 ex)) F hr hgd (b1 s2 (.ref a :: us) ws' I2.kIn (by rw [List.length_cons, e4]) e5) (passAt tk σ) I2 (b2 (.cons (show RelV (V.ref a) (Value.ref a) from rfl) rv) rw')
    ⟨_, C', Qc, _, b3 H' (.ref a :: ds) (.ref a :: vs) zs ws (by rw [List.length_cons, l1]) l2 (.cons (.ref a) r1) r2, l3, R', q, hq.from_ (k1.trans k'), fun x C'' cls d H'' hx xr R'' k'' => ⟨x, σc, C'', hx, xr, S1.step (k'.trans k'') R''⟩⟩
end
end L3

namespace L3
open PySem L2
/-! ### targets by slots -/
inductive CT where
  | nm (i : Nat) | tp (is : List Nat)
def CT.slots : CT → List Nat
  | .nm i => [i]
  | .tp is => is
def setAll (σ : Env3) : List Nat → List D → Env3
  | i :: is, d :: ds => setAll (σ.set i (some d)) is ds
  | _, _ => σ
def setAllV (σ : St) : List Nat → List V → St
  | i :: is, d :: ds => setAllV (σ.set i (some d)) is ds
  | _, _ => σ
def bindT (T : CT) (d : D) (σ : Env3) : Option Env3 := match T, d with
  | .nm i, d => some (σ.set i (some d))
  | .tp is, .tup ds => if ds.length = is.length then some (setAll σ is ds) else none
  | _, _ => none
def gAll : List Nat → TGs
  | [] => gNil
  | i :: is => gCons (gName i) (gAll is)
def tgV (K : PySem.W.Frag) : CT → TG
  | .nm i => gName i
  | .tp is => gTup K is.length (gAll is)
def wipe3 (σ : Env3) : List Nat → Env3
  | [] => σ
  | v :: vs => (wipe3 σ vs).set v none
section
variable {K : PySem.W.Frag} {cl : ClsT} {H : Hp} {C : CH}
theorem RepS.wipe {σc : Env3} {σ : St} (h : RepS K H σc σ) : ∀ vs : List Nat, RepS K H (wipe3 σc vs) (L2.wipe σ vs)
  | [] => h
  | v :: vs => RepS.wipe1 v (RepS.wipe h vs)
theorem wipe_set {σ : St} {o : Option V} : ∀ {vs : List Nat} {i : Nat}, i ∈ vs → L2.wipe (σ.set i o) vs = L2.wipe σ vs
  | v :: vs, i, h => by
    show (L2.wipe (σ.set i o) vs).set v none = (L2.wipe σ vs).set v none
    by_cases hv : i ∈ vs
    · rw [wipe_set hv]
    · have e : i = v := by rcases List.mem_cons.mp h with e | e; exact e; exact absurd e hv
      subst e
      have go : ∀ ws : List Nat, i ∉ ws → L2.wipe (σ.set i o) ws = (L2.wipe σ ws).set i o := by
        intro ws
        induction ws with
        | nil => intro _; rfl
        | cons w ws ih =>
          intro hw
          show (L2.wipe (σ.set i o) ws).set w none = ((L2.wipe σ ws).set w none).set i o
          rw [ih (fun z => hw (List.mem_cons_of_mem _ z)), List.set_comm _ _ (fun z => hw (by rw [z]; exact List.mem_cons_self))]
      rw [go vs hv, List.set_set]
theorem setAll_rep : ∀ {is : List Nat} {ds : List D} {vs : List V} {σc : Env3} {σ : St}, RepL K H ds vs → RepS K H σc σ → RepS K H (setAll σc is ds) (setAllV σ is vs)
  | [], _, _, _, _, _, s => by unfold setAll setAllV; exact s
  | _ :: _, _, _, _, _, .nil, s => by unfold setAll setAllV; exact s
  | i :: is, _, _, _, _, .cons r t, s => by
    unfold setAll setAllV
    exact setAll_rep t (s.set r i)
theorem gAll_set : ∀ {is : List Nat} {vs : List V} {σ : St} {Q : St → Hp → Prop}, vs.length = is.length → Q (setAllV σ is vs) H → gAll is vs σ H Q
  | [], vs, σ, Q, h, q => by
    cases vs with
    | nil => exact ⟨rfl, q⟩
    | cons _ _ => cases h
  | i :: is, vs, σ, Q, h, q => by
    cases vs with
    | nil => cases h
    | cons v vs => exact ⟨v, vs, rfl, gAll_set (by simpa using h) q⟩
theorem wipe_setAll : ∀ {is : List Nat} {xs : List V} {σ : St} {vs : List Nat}, (∀ i ∈ is, i ∈ vs) → L2.wipe (setAllV σ is xs) vs = L2.wipe σ vs
  | [], _, _, _, _ => by unfold setAllV; rfl
  | _ :: _, [], _, _, _ => by unfold setAllV; rfl
  | i :: is, x :: xs, σ, vs, h => by
    unfold setAllV
    rw [wipe_setAll fun j hj => h j (List.mem_cons_of_mem _ hj), wipe_set (h i List.mem_cons_self)]
theorem bind_tg {T : CT} {d : D} {v : V} {σc σc' : Env3} {σ : St} (e : bindT T d σc = some σc') (r : Rep K H d v) (s : RepS K H σc σ) :
    ∃ σ', RepS K H σc' σ' ∧ (∀ Q : St → Hp → Prop, Q σ' H → tgV K T v σ H Q) ∧ ∀ vs, (∀ i ∈ T.slots, i ∈ vs) → L2.wipe σ' vs = L2.wipe σ vs := by
  cases T with
  | nm i =>
    cases e
    exact ⟨_, s.set r i, fun Q q => q, fun vs h => wipe_set (h i (by simp [CT.slots]))⟩
  | tp is =>
    cases d with
    | tup ds =>
      by_cases hl : ds.length = is.length
      · rw [show bindT (.tp is) (.tup ds) σc = some (setAll σc is ds) from if_pos hl] at e
        cases e
        cases r with
        | tup sq rr => exact ⟨_, setAll_rep rr s, fun Q q => ⟨_, _, rfl, sq, by rw [← rr.length]; exact hl, gAll_set (by rw [← rr.length]; exact hl) q⟩, fun vs h => wipe_setAll h⟩
      · rw [show bindT (.tp is) (.tup ds) σc = none from if_neg hl] at e
        cases e
    | _ => cases e
end
def hT (T : CT) : CTG := fun d σ C Q => ∃ σ', bindT T d σ = some σ' ∧ Q σ' C
theorem cpg_T {X : Cx} {cl : ClsT} {e : Expr} {T : CT} (h : PG X e (tgV X.K T)) : CPG X cl e (hT T) := h.imp fun v σ H Q ⟨d, σc, C, Qc, r, s, R, ⟨σ', e, h⟩, hq⟩ => by
  obtain ⟨σ2, s2, g, _⟩ := bind_tg e r s
  exact g Q (hq _ _ _ _ h s2 R Keep.refl)
theorem pgs_all {X : Cx} (hN : X.N.Nodup) : ∀ {xs : List Expr} {is : List Nat}, xs.length = is.length → (∀ (j : Nat) (e : Expr) (i : Nat), xs[j]? = some e → is[j]? = some i → ∃ x pos, e = .Name x pos ∧ X.N[i]? = some x ∧ Loc X.env.scope x ∧ (X.fn x = true ∨ X.env.scope.names.lookup x = some .local)) → PGs X xs (gAll is)
  | [], is, h, _ => by
    cases is with
    | nil => exact pgs_nil
    | cons _ _ => cases h
  | x :: xs, is, h, hx => by
    cases is with
    | nil => cases h
    | cons i is =>
      obtain ⟨n, pos, rfl, h1, h2, h3⟩ := hx 0 x i rfl rfl
      exact pgs_cons (pg_name hN h1 h2 h3) (pgs_all hN (by simpa using h) fun j e i' a b => hx (j + 1) e i' (by simpa using a) (by simpa using b))
/-! ### list comprehensions -/
/-- one item after another: the list so far -/
def lcL (T : CT) (vs : List Nat) (σ : Env3) (t : CTT) (e : CTE) (G : CH → Prop) (Kq : List D → CH → Prop) : List D → List D → CH → Prop
  | [], acc, C => G C ∧ Kq acc C
  | d :: r, acc, C => G C ∧ ∃ σ2, bindT T d (wipe3 σ vs) = some σ2 ∧ t σ2 C fun b C1 => if b = true then e σ2 C1 fun y C2 => acc.length < sizeLine ∧ lcL T vs σ t e G Kq r (acc ++ [y]) C2 else lcL T vs σ t e G Kq r acc C1
def cLc (it : CTI) (T : CT) (vs : List Nat) (t : CTT) (e : CTE) : CTE := fun σ C Q => it σ C fun ds G C1 => lcL T vs σ t e G (fun acc C2 => ∀ p, C2 p = none → Q (.ref p) (cup C2 p (.lst acc))) ds [] C1
def cYes : CTT := fun _ C Q => Q true C
section
variable {X : Cx} {cl : ClsT} {H0 : Hp} {C0 : CH}
def CPTs (X : Cx) (cl : ClsT) (H0 : Hp) (C0 : CH) (ifs : List Expr) (c : CTT) : Prop := PTs X ifs (tT X.K cl H0 C0 c)
theorem cpts_nil : CPTs X cl H0 C0 [] cYes := ⟨fun pins s σ H Q I ⟨σc, C, Qc, S, h, hq⟩ => pts_nil.run pins s σ H Q I (hq _ _ _ h S.r Keep.refl)⟩
theorem cpts_one {c : Expr} {t : CTT} (h : CPT X cl H0 C0 c t) : CPTs X cl H0 C0 [c] t := pts_one h
theorem tLc_of {it : CTI} {T : CT} {vs : List Nat} {t : CTT} {e : CTE} (hv : ∀ i ∈ T.slots, i ∈ vs) : ∀ σ H Q, tE X.K cl H0 C0 (cLc it T vs t e) σ H Q →
    tLc (tI X.K cl H0 C0 it) (tgV X.K T) (tT X.K cl H0 C0 t) (tE X.K cl H0 C0 e) vs σ H Q := fun σ H Q ⟨σc, C, Qc, S, h, hq⟩ => ⟨σc, C, _, S, h, fun ds G C1 H1 J h1 R1 k1 ok Da hD => by
  have S1 := S.step k1 R1
  -- turn i: the list so far stands at Da, the clean heap does not know it
  refine ⟨fun i m H' => m = ds.length - i ∧ i ≤ ds.length ∧ ∃ C' acc vacc, RepS X.K H' σc σ ∧ Rel X.K cl H' C' ∧ Keep H1 C1 H' C' ∧ H' Da = some (.lst vacc) ∧ C' Da = none ∧ RepL X.K H' acc vacc ∧
      lcL T vs σc t e G (fun acc C2 => ∀ p, C2 p = none → Qc (.ref p) (cup C2 p (.lst acc))) (ds.drop i) acc C',
    ⟨ds.length, by simp, Nat.zero_le _, C1, [], [], S1.s.keep R1 (keep_newH hD _ R1), R1.newH hD _, keep_newH hD _ R1, upd_same, free_of R1 hD, .nil, h1⟩, ?_⟩
  rintro i m H' ⟨rfl, hi, C', acc, vacc, s', R', k', hDa, hCa, ra, hl⟩
  by_cases hlt : i < ds.length
  · rw [List.drop_eq_getElem_cons hlt] at hl
    obtain ⟨hG, σ2c, eb, hl⟩ := hl
    refine .inr ⟨ok.go i H' C' k' R' hG hlt, fun H2 => i + 1 ≤ ds.length ∧ ∃ C2 acc2 vacc2, RepS X.K H2 σc σ ∧ Rel X.K cl H2 C2 ∧ Keep H1 C1 H2 C2 ∧ H2 Da = some (.lst vacc2) ∧ C2 Da = none ∧ RepL X.K H2 acc2 vacc2 ∧
      lcL T vs σc t e G (fun acc C2 => ∀ p, C2 p = none → Qc (.ref p) (cup C2 p (.lst acc))) (ds.drop (i + 1)) acc2 C2, fun H2 ⟨hle, q⟩ => ⟨ds.length - (i + 1), by omega, rfl, hle, q⟩, fun x H2 hy => ?_⟩
    obtain ⟨rx, R2, k2⟩ := ok.yld i H' C' x H2 k' R' hG hy _ (List.getElem?_eq_getElem hlt)
    have s2 := s'.keep R' k2
    obtain ⟨σ2, sb, hb, hw⟩ := bind_tg (K := X.K) eb rx (s2.wipe vs)
    refine hb _ ⟨?_, ?_⟩
    · have e1 := hw vs hv
      have e2 : ∀ (ws : List Nat) (τ : St), (∀ j ∈ ws, j ∈ vs) → L2.wipe (L2.wipe τ ws) vs = L2.wipe τ vs := by
        intro ws
        induction ws with
        | nil => intro τ _; rfl
        | cons w ws ih =>
          intro τ hws
          show L2.wipe ((L2.wipe τ ws).set w none) vs = _
          rw [wipe_set (hws w List.mem_cons_self)]
          exact ih τ fun j hj => hws j (List.mem_cons_of_mem _ hj)
      rw [e1]
      exact e2 vs σ fun _ z => z
    · have kA : Keep H1 C1 H2 C' := k'.trans k2
      have hDa2 : H2 Da = some (.lst vacc) := (k2 Da _ hDa hCa).1
      refine ⟨σ2c, C', _, ⟨sb, R2, (S1.f.trans kA)⟩, hl, fun b C3 H3 h3 R3 k3 => ?_⟩
      have hDa3 := k3 Da _ hDa2 hCa
      cases b with
      | true =>
        refine iteT ⟨σ2c, C3, _, ⟨sb.keep R2 k3, R3, S1.f.trans (kA.trans k3)⟩, h3, fun y C4 v H4 ⟨hsz, h4⟩ rv R4 k4 => ?_⟩
        have hDa4 := k4 Da _ hDa3.1 hDa3.2
        have r4 : RepL X.K H4 acc vacc := (((ra.keep R' k2).keep R2 k3).keep R3 k4)
        refine ⟨vacc, hDa4.1, by rw [← r4.length]; exact hsz, hlt, C4, acc ++ [y], vacc ++ [v], ?_⟩
        have kU : Keep H4 C4 (upd H4 Da (.lst (vacc ++ [v]))) C4 → True := fun _ => trivial
        -- the list is written at Da: nothing that the clean heap or the data lean on
        have nt : ∀ (b : Addr) (xs : List V), Rd H4 b (.tup xs) → b ≠ Da := fun b xs h z => by
          subst z
          rcases h with h | ⟨u, h⟩ <;> (rw [hDa4.1] at h; cases h)
        have sqU : ∀ {b : Addr} {xs : List V}, SqT X.K H4 b xs → SqT X.K (upd H4 Da (.lst (vacc ++ [v]))) b xs := fun {b xs} h => by
          rcases h with h | h
          · have n := nt b xs h
            rcases h with h | ⟨u, h⟩
            · exact .inl (.inl (by rw [upd_ne n]; exact h))
            · exact .inl (.inr ⟨u, by rw [upd_ne n]; exact h⟩)
          · exact .inr h
        have rlU : ∀ {b : Addr} {xs : List V}, RlS X.K H4 b xs → RlS X.K (upd H4 Da (.lst (vacc ++ [v]))) b xs := fun {b xs} h => by
          rcases h with ⟨o, h⟩ | h
          · have n : b ≠ Da := fun z => by rw [z, hDa4.1] at h; cases h
            exact .inl ⟨o, by rw [upd_ne n]; exact h⟩
          · exact .inr h
        have repU : ∀ (d : D) (w : V), Rep X.K H4 d w → Rep X.K (upd H4 Da (.lst (vacc ++ [v]))) d w := fun d w h => by
          refine Rep.rec (motive_1 := fun d w _ => Rep X.K (upd H4 Da (.lst (vacc ++ [v]))) d w) (motive_2 := fun ds ws _ => RepL X.K (upd H4 Da (.lst (vacc ++ [v]))) ds ws) .non (fun b => .bl b) (fun b => .int b) (fun b => .str b) (fun b => .ty b) (fun b => .ref b) (fun h _ ih => .tup (sqU h) ih) (fun h _ ih => .rls (rlU h) ih) .nil (fun _ _ ih1 ih2 => .cons ih1 ih2) h
        have repLU : ∀ (d : List D) (w : List V), RepL X.K H4 d w → RepL X.K (upd H4 Da (.lst (vacc ++ [v]))) d w := fun d w h => by
          induction h using RepL.rec (motive_1 := fun _ _ _ => True) with
          | non => trivial
          | bl => trivial
          | int => trivial
          | str => trivial
          | ty => trivial
          | ref => trivial
          | tup => trivial
          | rls => trivial
          | nil => exact .nil
          | cons h1 _ _ ih => exact .cons (repU _ _ h1) ih
        have s4 := (((s2.keep R2 k3)).keep R3 k4)
        have repSU : ∀ (d : Env3) (w : St), RepS X.K H4 d w → RepS X.K (upd H4 Da (.lst (vacc ++ [v]))) d w := fun d w h => by
          induction h with
          | nil => exact .nil
          | no _ ih => exact .no ih
          | so h1 _ ih => exact .so (repU _ _ h1) ih
        have repFU : ∀ {κ : Type} (d : List (κ × D)) (w : List (κ × V)), RepF X.K H4 d w → RepF X.K (upd H4 Da (.lst (vacc ++ [v]))) d w := fun d w h => by
          induction h with
          | nil => exact .nil
          | cons h1 _ ih => exact .cons (repU _ _ h1) ih
        have repKU : ∀ (d : List (NestedKey × D)) (w : List (NestedKey × Addr × Value)), RepK X.K H4 d w → RepK X.K (upd H4 Da (.lst (vacc ++ [v]))) d w := fun d w h => by
          induction h with
          | nil => exact .nil
          | cons e z h1 h2 q _ ih => exact .cons e z (repU _ _ h1) (repU _ _ h2) q ih
        refine ⟨repSU _ _ s4, fun a o ho => ?_, fun b o hb hn => ?_, upd_same, hDa4.2, repLU _ _ (r4.append (.cons rv .nil)), h4⟩
        · have na : a ≠ Da := fun z => by rw [z, hDa4.2] at ho; cases ho
          have q := R4 a o ho
          cases o with
          | lst ds => obtain ⟨ws, h1, h2⟩ := q; exact ⟨ws, by rw [upd_ne na]; exact h1, repLU _ _ h2⟩
          | dic ds => obtain ⟨ws, h1, h2⟩ := q; exact ⟨ws, by rw [upd_ne na]; exact h1, repFU _ _ h2⟩
          | dtk ds => obtain ⟨ws, h1, h2⟩ := q; exact ⟨ws, by rw [upd_ne na]; exact h1, repKU _ _ h2⟩
          | ins c ds => obtain ⟨Ca, dx, ws, h0, h1, h2⟩ := q; exact ⟨Ca, dx, ws, h0, by rw [upd_ne na]; exact h1, repFU _ _ h2⟩
        · have q := ((kA.trans k3).trans k4) b o hb hn
          exact ⟨by rw [upd_ne (ne_of_none hb hD)]; exact q.1, q.2⟩
      | false =>
        exact iteF ⟨hlt, C3, acc, vacc, (s2.keep R2 k3), R3, kA.trans k3, hDa3.1, hDa3.2, (ra.keep R' k2).keep R2 k3, h3⟩
  · have e0 : ds.drop i = [] := List.drop_eq_nil_of_le (by omega)
    rw [e0] at hl
    refine .inl ⟨ok.stop i H' C' k' R' hl.1 (by omega), ?_⟩
    have R2 : Rel X.K cl H' (cup C' Da (.lst acc)) := fun a o ho => by
      by_cases ha : a = Da
      · subst ha; rw [cup_same] at ho; cases ho; exact ⟨vacc, hDa, ra⟩
      · rw [cup_ne ha] at ho; exact R' a o ho
    refine hq _ _ _ _ (hl.2 Da hCa) (.ref Da) R2 fun b o hb hn => ?_
    obtain ⟨z1, z2⟩ := (k1.trans k') b o hb hn
    obtain ⟨z3, _⟩ := k1 b o hb hn
    exact ⟨z1, by rw [cup_ne (ne_of_none z3 hD)]; exact z2⟩⟩
theorem cpe_lc {elt tg iter : Expr} {ifs : List Expr} {scope : Scope} {own : List (Str × Nat)} {pos : Pos} {it : CTI} {T : CT} {t : CTT} {e : CTE} (hc : X.calm = true) (hN : X.N.Nodup) (hi : CPI X cl H0 C0 tg iter it) (ok : BlkOk X.N X.env.scope scope own) (hv : ∀ i ∈ T.slots, i ∈ own.map (·.2))
    (hg : ∀ (s : Shared) (H : Hp) (C : Addr) (cs : List (Str × Addr)) (fp : List Addr), PG (X.blk s H scope (compEnvC scope cs C X.env) fp) tg (tgV X.K T)) (ht : ∀ (s : Shared) (H : Hp) (C : Addr) (cs : List (Str × Addr)) (fp : List Addr), CPTs (X.blk s H scope (compEnvC scope cs C X.env) fp) cl H0 C0 ifs t)
    (he : ∀ (s : Shared) (H : Hp) (C : Addr) (cs : List (Str × Addr)) (fp : List Addr), CPE (X.blk s H scope (compEnvC scope cs C X.env) fp) cl H0 C0 elt e) (hs : ∀ x, foldedSetIterable iter X.env x = pure x) :
    CPE X cl H0 C0 (.ListComp elt [⟨tg, iter, ifs, 0⟩] scope pos) (cLc it T (own.map (·.2)) t e) := (pe_lc (tt := tT X.K cl H0 C0 t) (te := tE X.K cl H0 C0 e) hc hN hi ok hg ht he hs).imp (tLc_of hv)
/-- name = [..] on one line -/
theorem cps_setLc {i : Nat} {y : Str} {py : Pos} {elt tg iter : Expr} {ifs : List Expr} {scope : Scope} {own : List (Str × Nat)} {pos spos : Pos} {it : CTI} {T : CT} {t : CTT} {e : CTE} (hc : X.calm = true) (hN : X.N.Nodup) (hy : X.N[i]? = some y) (hyl : X.env.scope.names.lookup y = some .local)
    (hsw : swapsWith (.ListComp elt [⟨tg, iter, ifs, 0⟩] scope pos) (some (.Name y py)) spos.line X.env = pure true) (hi : CPI X cl H0 C0 tg iter it) (ok : BlkOk X.N X.env.scope scope own) (hv : ∀ i ∈ T.slots, i ∈ own.map (·.2))
    (hg : ∀ (s : Shared) (H : Hp) (C : Addr) (cs : List (Str × Addr)) (fp : List Addr), PG (X.blk s H scope (compEnvC scope cs C X.env) fp) tg (tgV X.K T)) (ht : ∀ (s : Shared) (H : Hp) (C : Addr) (cs : List (Str × Addr)) (fp : List Addr), CPTs (X.blk s H scope (compEnvC scope cs C X.env) fp) cl H0 C0 ifs t)
    (he : ∀ (s : Shared) (H : Hp) (C : Addr) (cs : List (Str × Addr)) (fp : List Addr), CPE (X.blk s H scope (compEnvC scope cs C X.env) fp) cl H0 C0 elt e) (hs : ∀ x, foldedSetIterable iter X.env x = pure x) :
    CPS X cl H0 C0 (.Assign [.Name y py] (.ListComp elt [⟨tg, iter, ifs, 0⟩] scope pos) spos) (sAsg (cLc it T (own.map (·.2)) t e) (hT (.nm i))) :=
  (ps_setLc (tt := tT X.K cl H0 C0 t) (te := tE X.K cl H0 C0 e) hc hN hy hyl hsw hi ok hg ht he hs).imp fun D σ H ⟨σc, C, Dc, S, h, hq⟩ => tLc_of (X := X) hv σ H (fun v H1 => gName i v σ H1 D.nx) ⟨σc, C, _, S, h, fun d C1 v H1 ⟨σ', h1, h2⟩ rv R1 k1 => by
    cases h1
    exact hq.nx _ _ _ _ h2 ((S.s.keep S.r k1).set rv i) R1 k1⟩
end
end L3

namespace L3
open PySem L2
/-! ### syntax -/
def noSuper : Expr → Bool
  | .Call (.Name id _) [] [] _ => id != ("super" : Str)
  | _ => true
theorem base_of {o : Expr} {m : Str} {env : Env} {w : Sem Value} (h : noSuper o = true) : attributeBase o m env w = w := by
  cases o with
  | Call f a k p =>
    cases f with
    | Name id q =>
      cases a with
      | nil =>
        cases k with
        | nil => exact abase_call h
        | cons _ _ => rfl
      | cons _ _ => rfl
    | _ => rfl
  | _ => rfl
def notSlice : Expr → Bool
  | .Slice .. => false
  | _ => true
theorem plainIx_of {b : Expr} (h : notSlice b = true) : PlainIx b := fun o i => by
  cases b <;> first | rfl | cases h
def plainTest : Expr → Bool
  | .BoolOp .. => false
  | .UnaryOp .Not _ _ => false
  | .Compare .. => false
  | .NamedExpr .. => false
  | .IfExp .. => false
  | _ => true
/-! ### subscripts -/
def oIxA : O2 := fun x y C Q => match x with
  | .tup ds => ∃ i d, y = .int i ∧ atI ds i = some d ∧ Q d C
  | .rls ds => ∃ i d, y = .int i ∧ atI ds i = some d ∧ Q d C
  | .str z => ∃ i c, y = .int i ∧ z.length ≤ sizeLine ∧ atI z.cps.toList i = some c ∧ Q (.str ⟨#[c]⟩) C
  | .ref p => match C p with
    | some (.lst ds) => ∃ i d, y = .int i ∧ atI ds i = some d ∧ Q d C
    | some (.dic kvs) => ∃ k d, keyD y = some k ∧ valC kvs k = some d ∧ Q d C
    | _ => False
  | _ => False
theorem oIxA_cases {x y : D} {C : CH} {Q : Kv} (h : oIxA x y C Q) : oIx x y C Q ∨ (oIxS x y C Q ∨ oGet x y C Q) := by
  unfold oIxA at h
  cases x with
  | tup ds => obtain ⟨i, d, h1, h2, h3⟩ := h; exact .inl ⟨ds, i, d, .inl rfl, h1, h2, h3⟩
  | rls ds => obtain ⟨i, d, h1, h2, h3⟩ := h; exact .inl ⟨ds, i, d, .inr (.inl rfl), h1, h2, h3⟩
  | str z => obtain ⟨i, c, h1, h2, h3, h4⟩ := h; exact .inr (.inl ⟨z, i, c, rfl, h1, h2, h3, h4⟩)
  | ref p =>
    simp only at h
    cases e : C p with
    | none => rw [e] at h; exact h.elim
    | some o =>
      rw [e] at h
      cases o with
      | lst ds => obtain ⟨i, d, h1, h2, h3⟩ := h; exact .inl ⟨ds, i, d, .inr (.inr ⟨p, rfl, e⟩), h1, h2, h3⟩
      | dic kvs => obtain ⟨k, d, h1, h2, h3⟩ := h; exact .inr (.inr ⟨p, kvs, k, d, rfl, e, h1, h2, h3⟩)
      | dtk kvs => exact h.elim
      | ins c fs => exact h.elim
  | _ => exact h.elim
section
variable {X : Cx} {cl : ClsT} {H0 : Hp} {C0 : CH} {a b e o : Expr} {es : List Expr} {ca cb co : CTE} {cs : CTA} {pos : Pos}
def rIxA (K : PySem.W.Frag) : R2 := fun x y H Q => (rIxL K x y H Q ∨ rIxT K x y H Q) ∨ (rIxS x y H Q ∨ rGetV x y H Q)
theorem ixR_A (hu : X.A.units + 1 < cLine) : IxR X (rIxA X.K) := (ix_list.or ix_tup).or (ix_str.or (ix_dict hu))
theorem lk_ixA {K : PySem.W.Frag} : Lk2 K cl (rIxA K) oIxA := fun H C d e v u Q Qc rd re R h hq => by
  rcases oIxA_cases h with h | h | h
  · exact .inl (lk_ix H C d e v u Q Qc rd re R h hq)
  · exact .inr (.inl (lk_ixS H C d e v u Q Qc rd re R h hq))
  · exact .inr (.inr (lk_get H C d e v u Q Qc rd re R h hq))
theorem cpe_ix (hu : X.A.units + 1 < cLine) (ha : CPE X cl H0 C0 a ca) (hb : CPE X cl H0 C0 b cb) (hs : notSlice b = true) : CPE X cl H0 C0 (.Subscript a b pos) (cBin oIxA ca cb) :=
  (pe_ix (ixR_A hu) ha hb (plainIx_of hs)).imp (tOp_of (ta := tE X.K cl H0 C0 ca) (tb := tE X.K cl H0 C0 cb) lk_ixA)
/-! slices -/
abbrev CTO := Env3 → CH → (Option Int → CH → Prop) → Prop
def tO (K : PySem.W.Frag) (cl : ClsT) (H0 : Hp) (C0 : CH) (c : CTO) : TO := fun σ H Q => ∃ σc C Qc, S3 K cl H0 C0 σ H σc C ∧ c σc C Qc ∧ ∀ i C' H', Qc i C' → Rel K cl H' C' → Keep H C H' C' → Q i H'
def CPO (X : Cx) (cl : ClsT) (H0 : Hp) (C0 : CH) (e : Option Expr) (c : CTO) : Prop := PO X e (tO X.K cl H0 C0 c)
def cNoPart : CTO := fun _ C Q => Q none C
def cPart (a : CTE) : CTO := fun σ C Q => a σ C fun d C1 => ∃ i, d = .int i ∧ Q (some i) C1
theorem cpo_none : CPO X cl H0 C0 none cNoPart := ⟨fun pins s σ H Q I ⟨σc, C, Qc, S, h, hq⟩ => po_none.run pins s σ H Q I (hq _ _ _ h S.r Keep.refl)⟩
theorem cpo_some (he : CPE X cl H0 C0 e ca) : CPO X cl H0 C0 (some e) (cPart ca) := ⟨fun pins s σ H Q I ⟨σc, C, Qc, S, h, hq⟩ => (po_some he).run pins s σ H Q I ⟨σc, C, _, S, h, fun d C1 v H1 ⟨i, h1, h2⟩ rv R1 k1 => by
  subst h1; cases rv
  exact ⟨i, rfl, hq _ _ _ h2 R1 k1⟩⟩⟩
def cutD (ds : List D) (lo hi : Option Int) : List D := (ds.drop (HT.sIx ds.length 0 lo)).take (HT.sIx ds.length ds.length hi - HT.sIx ds.length 0 lo)
def oSl (x : D) (lo hi : Option Int) : CH → Kv → Prop := fun C Q => match x with
  | .tup ds => Q (.tup (cutD ds lo hi)) C
  | .str z => z.length ≤ sizeLine ∧ Q (.str (cutS z lo hi)) C
  | .ref p => (∃ ds, LsC C p ds ∧ ∀ l, C l = none → Q (.ref l) (cup C l (.lst (cutD ds lo hi))))
  | _ => False
def cSl (a : CTE) (l h : CTO) : CTE := fun σ C Q => a σ C fun d C1 => l σ C1 fun lo C2 => h σ C2 fun hi C3 => oSl d lo hi C3 Q
theorem RepL.cut {K : PySem.W.Frag} {H : Hp} {ds : List D} {vs : List V} (h : RepL K H ds vs) (lo hi : Option Int) : RepL K H (cutD ds lo hi) (cutV vs lo hi) := by
  unfold cutD cutV
  rw [← h.length]
  exact (h.drop _).take _
theorem sIx_whole {n : Nat} {lo hi : Option Int} (h : HT.sIx n 0 lo = 0 ∧ HT.sIx n n hi = n) (ds : List D) (e : ds.length = n) : cutD ds lo hi = ds := by
  unfold cutD
  rw [e, h.1, h.2, List.drop_zero, Nat.sub_zero, ← e, List.take_length]
theorem cpe_slice {lo hi : Option Expr} {cl' ch : CTO} {p2 : Pos} (ha : CPE X cl H0 C0 a ca) (hl : CPO X cl H0 C0 lo cl') (hh : CPO X cl H0 C0 hi ch) : CPE X cl H0 C0 (.Subscript a (.Slice lo hi none p2) pos) (cSl ca cl' ch) :=
  (pe_slice (sl_tupA.or (sl_list.or sl_str)) ha hl hh).imp fun σ H Q ⟨σc, C, Qc, S, h, hq⟩ => ⟨σc, C, _, S, h, fun d C1 v H1 h1 rv R1 k1 => ⟨σc, C1, _, S.step k1 R1, h1, fun l C2 H2 h2 R2 k2 => ⟨σc, C2, _, (S.step k1 R1).step k2 R2, h2, fun u C3 H3 h3 R3 k3 => by
    have rv3 := (rv.keep R1 k2).keep R2 k3
    have hq3 := hq.from_ ((k1.trans k2).trans k3)
    cases d with
    | tup ds =>
      cases rv3 with
      | tup sq rr =>
        refine .inl ⟨_, _, rfl, sq, fun hw => ?_, fun hw p hp => hq3.tup h3 (rr.cut l u) R3 hp⟩
        have h3' : Qc (.tup (cutD ds l u)) C3 := h3
        rw [sIx_whole hw ds rr.length] at h3'
        exact hq3.now h3' (.tup sq rr) R3
    | str z =>
      cases rv3
      exact .inr (.inr ⟨z, rfl, h3.1, hq3.now h3.2 (.str _) R3⟩)
    | ref p =>
      cases rv3
      obtain ⟨ds, hl, q⟩ := h3
      obtain ⟨vs, sq, rr⟩ := R3.ls hl
      exact .inr (.inl ⟨p, vs, rfl, sq, fun p' hp => hq3.lst (rr.cut l u) R3 hp (q p' (free_of R3 hp))⟩)
    | _ => exact h3.elim⟩⟩⟩
/-! ### methods of built-ins -/
abbrev OM := D → List D → CH → Kv → Prop
def LkM (K : PySem.W.Frag) (cl : ClsT) (r : V → List V → Hp → VK → Prop) (o : OM) : Prop := ∀ H C d v ds vs Q Qc, Rep K H d v → RepL K H ds vs → Rel K cl H C → o d ds C Qc → EndE K cl H C Qc Q → r v vs H Q
def LkTy (K : PySem.W.Frag) (cl : ClsT) (T : String) (ty : D → CH → Prop) : Prop := ∀ H C d v, Rep K H d v → Rel K cl H C → ty d C → tyV K T v H
def cMt (ty : D → CH → Prop) (o : OM) (co : CTE) (ca : CTA) : CTE := fun σ C Q => co σ C fun d C1 => ty d C1 ∧ ca σ C1 fun ds C2 => o d ds C2 Q
def isLst (d : D) (C : CH) : Prop := ∃ p xs, d = .ref p ∧ LsC C p xs
def isStr (d : D) (_ : CH) : Prop := ∃ z, d = .str z
def isDic (d : D) (C : CH) : Prop := ∃ p kvs, d = .ref p ∧ C p = some (.dic kvs)
theorem lkTy_lst {K : PySem.W.Frag} : LkTy K cl "list" isLst := fun H C d v r R ⟨p, xs, e, h⟩ => by
  subst e; cases r
  obtain ⟨vs, h1, _⟩ := R.ls h
  exact .inl ⟨rfl, vs, h1⟩
theorem lkTy_str {K : PySem.W.Frag} : LkTy K cl "str" isStr := fun H C d v r R ⟨z, e⟩ => by subst e; cases r; exact rfl
theorem lkTy_dic {K : PySem.W.Frag} : LkTy K cl "dict" isDic := fun H C d v r R ⟨p, kvs, e, h⟩ => by
  subst e; cases r
  obtain ⟨vs, h1, _⟩ := R p _ h
  exact .inr (.inr (.inl ⟨rfl, .inl ⟨vs, h1⟩⟩))
theorem few_of {env : Env} {pos : Pos} (h : es.all notStar = true) (hl : es.length < 30) : ((backTo pos (starEach es env)).all (fun x => !x.1) && (backToKw pos (keywordEach [] env)).all (fun x => x.1.isSome)
      && decide (es.length + ([] : List Keyword).length + (if ([] : List Keyword).isEmpty then 0 else 1) < 30)) = true := by
  have e1 : (backTo pos (starEach es env)).all (fun x => !x.1) = true := by
    have := star_any (env := env) (pos := pos) h
    rw [List.all_eq_not_any_not]
    simpa using this
  rw [e1]
  show (true && true && decide (es.length + 0 + 0 < 30)) = true
  rw [decide_eq_true (by omega)]
  rfl
theorem cpe_mt {T id : String} {name : Str} {apos cpos : Pos} {r : V → List V → Hp → VK → Prop} {ty : D → CH → Prop} {om : OM} (pa : PlainAttrs T) (slot : Slot T name id) (hty : typeOf (.builtin id) = pure (.type "method_descriptor")) (hm : MtR X id r)
    (l : LkM X.K cl r om) (lt : LkTy X.K cl T ty) (ho : CPE X cl H0 C0 o co) (ha : CPA X cl H0 C0 es cs) (h0 : es = [] → cs = cNil) (hes : es.all notStar = true) (hl : es.length < 30) (hb : noSuper o = true) (hline : (apos.endLine == cpos.line) = true) :
    CPE X cl H0 C0 (.Call (.Attribute o name apos) es [] cpos) (cMt ty om co cs) := by
  cases es with
  | nil =>
    rw [h0 rfl]
    exact (pe_bm0 pa slot hty hm ho (base_of hb) hline).imp fun σ H Q ⟨σc, C, Qc, S, h, hq⟩ => ⟨σc, C, _, S, h, fun d C1 v H1 ⟨h1, h2⟩ rv R1 k1 => ⟨lt H1 C1 d v rv R1 h1, l H1 C1 d v [] [] Q Qc rv .nil R1 h2 (hq.from_ k1)⟩⟩
  | cons e es =>
    have hes' := hes
    rw [List.all_cons, Bool.and_eq_true] at hes'
    exact (pe_bm pa slot hty hm ho ha (base_of hb) (few_of hes hl) hline (star_of hes'.1) (star_any hes'.2)).imp fun σ H Q ⟨σc, C, Qc, S, h, hq⟩ => ⟨σc, C, _, S, h, fun d C1 v H1 ⟨h1, h2⟩ rv R1 k1 => ⟨lt H1 C1 d v rv R1 h1, σc, C1, _, S.step k1 R1, h2, fun ds C2 vs H2 h3 rs R2 k2 =>
      l H2 C2 d v ds vs Q Qc (rv.keep R1 k2) rs R2 h3 (hq.from_ (k1.trans k2))⟩⟩
def oAppend : OM := fun d ds C Q => ∃ p xs y, d = .ref p ∧ ds = [y] ∧ C p = some (.lst xs) ∧ xs.length < sizeLine ∧ Q .non (cup C p (.lst (xs ++ [y])))
theorem lk_append {K : PySem.W.Frag} : LkM K cl rAppend oAppend := fun H C d v ds vs Q Qc r rs R ⟨p, xs, y, h1, h2, h3, h4, q⟩ hq => by
  subst h1; subst h2; cases r
  obtain ⟨u, rfl, ru⟩ := rs.one
  obtain ⟨ws, e1, r1⟩ := R p _ h3
  exact ⟨p, ws, u, rfl, rfl, e1, by rw [← r1.length]; exact h4, hq _ _ _ _ q .non (R.wlst h3 e1 (r1.append (.cons ru .nil))) (Keep.write h3 _ _)⟩
def oExtend : OM := fun d ds C Q => ∃ p b xs ys, d = .ref p ∧ ds = [.ref b] ∧ C p = some (.lst xs) ∧ C b = some (.lst ys) ∧ xs.length + ys.length ≤ sizeLine ∧ Q .non (cup C p (.lst (xs ++ ys)))
theorem lk_extend {K : PySem.W.Frag} : LkM K cl rExtend oExtend := fun H C d v ds vs Q Qc r rs R ⟨p, b, xs, ys, h1, h2, h3, h4, h5, q⟩ hq => by
  subst h1; subst h2; cases r
  obtain ⟨u, rfl, ru⟩ := rs.one
  cases ru
  obtain ⟨ws, e1, r1⟩ := R p _ h3
  obtain ⟨us, e2, r2⟩ := R b _ h4
  exact ⟨p, b, ws, us, rfl, rfl, e1, e2, by rw [← r1.length, ← r2.length]; exact h5, hq _ _ _ _ q .non (R.wlst h3 e1 (r1.append r2)) (Keep.write h3 _ _)⟩
def oPop : OM := fun d ds C Q => ∃ p xs y, d = .ref p ∧ ds = [] ∧ C p = some (.lst xs) ∧ xs[xs.length - 1]? = some y ∧ Q y (cup C p (.lst xs.dropLast))
theorem lk_pop {K : PySem.W.Frag} : LkM K cl rPop oPop := fun H C d v ds vs Q Qc r rs R ⟨p, xs, y, h1, h2, h3, h4, q⟩ hq => by
  subst h1; subst h2; cases r; cases rs
  obtain ⟨ws, e1, r1⟩ := R p _ h3
  obtain ⟨u, e2, r2⟩ := r1.get h4
  exact ⟨p, ws, u, rfl, rfl, e1, by rw [← r1.length]; exact e2, hq _ _ _ _ q (r2.keep R (Keep.write h3 _ (.lst xs.dropLast))) (R.wlst h3 e1 r1.dropLast) (Keep.write h3 _ _)⟩
def oPopAt : OM := fun d ds C Q => ∃ p xs i k y, d = .ref p ∧ ds = [.int i] ∧ C p = some (.lst xs) ∧ -(2 ^ 63) ≤ i ∧ i < 2 ^ 63 ∧ seqIndex? i xs.length = some k ∧ xs[k]? = some y ∧ Q y (cup C p (.lst (xs.eraseIdx k)))
theorem lk_popAt {K : PySem.W.Frag} : LkM K cl rPopAt oPopAt := fun H C d v ds vs Q Qc r rs R ⟨p, xs, i, k, y, h1, h2, h3, h4, h5, h6, h7, q⟩ hq => by
  subst h1; subst h2; cases r
  obtain ⟨w, rfl, rw'⟩ := rs.one
  cases rw'
  obtain ⟨ws, e1, r1⟩ := R p _ h3
  obtain ⟨u, e2, r2⟩ := r1.get h7
  exact ⟨p, ws, i, k, u, rfl, rfl, e1, h4, h5, by rw [← r1.length]; exact h6, e2, hq _ _ _ _ q (r2.keep R (Keep.write h3 _ (.lst (xs.eraseIdx k)))) (R.wlst h3 e1 (r1.eraseIdx k)) (Keep.write h3 _ _)⟩
def oJoin : OM := fun d ds C Q => ∃ a x ys, d = .str a ∧ ds = [x] ∧ SqC C x (ys.map D.str) ∧ (ys.map (·.length)).sum + ys.length * a.length ≤ 16777216 ∧ Q (.str (Txt.join a ys)) C
def rJoin (K : PySem.W.Frag) : V → List V → Hp → VK → Prop := fun x xs H Q => ∃ a p, ∃ ys : List Str, x = .str a ∧ xs = [.ref p] ∧ (SqL K H p (ys.map V.str) ∨ SqT K H p (ys.map V.str)) ∧
    (ys.map (·.length)).sum + ys.length * a.length ≤ 16777216 ∧ Q (.str (Txt.join a ys)) H
theorem lk_join {K : PySem.W.Frag} : LkM K cl (rJoin K) oJoin := fun H C d v ds vs Q Qc r rs R ⟨a, x, ys, h1, h2, h3, h4, q⟩ hq => by
  subst h1; subst h2; cases r
  obtain ⟨w, rfl, rw'⟩ := rs.one
  obtain ⟨p, us, rfl, h, rr⟩ := R.sq h3 rw'
  have e := rr.strs
  subst e
  exact ⟨a, p, ys, rfl, rfl, h, h4, hq.now q (.str _) R⟩
theorem lk_allB {K : PySem.W.Frag} : LkL K cl (rAll K) (oAll fun bs => .bl (bs.all id)) := fun H C ds vs Q Qc rs R ⟨p, bs, h1, h2, q⟩ hq => by
  subst h1
  obtain ⟨v, rfl, r⟩ := rs.one
  cases r
  obtain ⟨us, e1, r1⟩ := R.ls h2
  have e2 := r1.bls
  subst e2
  exact ⟨p, bs, rfl, e1, hq.now q (.bl _) R⟩
theorem lk_anyB {K : PySem.W.Frag} : LkL K cl (rAny K) (oAll fun bs => .bl (bs.any id)) := fun H C ds vs Q Qc rs R ⟨p, bs, h1, h2, q⟩ hq => by
  subst h1
  obtain ⟨v, rfl, r⟩ := rs.one
  cases r
  obtain ⟨us, e1, r1⟩ := R.ls h2
  have e2 := r1.bls
  subst e2
  exact ⟨p, bs, rfl, e1, hq.now q (.bl _) R⟩
/-! ### attributes -/
structure ClsOk (K : PySem.W.Frag) (Ca : Addr) : Prop where
  cls : Cls K Ca
  ha : PySem.W.findIn K (.ref Ca) "__class__" = some (some (.builtin "object.__class__"))
  hn : PySem.W.specialIn K (.builtin "object.__class__") "__get__" = some (some (.builtin "getset_descriptor.__get__"))
  htk : PySem.W.takesIn K (.builtin "object.__class__") = some true
  hm : PySem.W.mroIn K Ca (.type "object") = some true
def cAttr (f : Str) (ok : Nat → Prop) (a : CTE) : CTE := fun σ C Q => a σ C fun d C1 => ∃ p c fs v, d = .ref p ∧ C1 p = some (.ins c fs) ∧ ok c ∧ fs.lookup f = some v ∧ Q v C1
theorem cpe_attr {f : Str} {ok : Nat → Prop} (hok : ∀ c Ca, ok c → cl c = some Ca → Cls X.K Ca ∧ NoAttr X.K Ca f) (he : CPE X cl H0 C0 e ca) (hb : noSuper e = true) : CPE X cl H0 C0 (.Attribute e f pos) (cAttr f ok ca) :=
  (pe_fld he (base_of hb)).imp fun σ H Q ⟨σc, C, Qc, S, h, hq⟩ => ⟨σc, C, _, S, h, fun d C1 v H1 ⟨p, c, fs, z, h1, h2, h3, h4, q⟩ rv R1 k1 => by
    subst h1; cases rv
    obtain ⟨Ca, dx, fv, hc, e1, rf⟩ := R1 p _ h2
    obtain ⟨w, e2, rw'⟩ := rf.lookup h4
    obtain ⟨k1', k2'⟩ := hok c Ca h3 hc
    exact ⟨p, Ca, dx, fv, w, rfl, e1, k1', k2', e2, (hq.from_ k1).now q rw' R1⟩⟩
theorem RepF.putF {K : PySem.W.Frag} {H : Hp} {f : Str} {d : D} {v : V} (r : Rep K H d v) : ∀ {ds : List (Str × D)} {vs : List (Str × V)}, RepF K H ds vs → ∃ ds', RepF K H ds' (L2.putF f v vs) ∧ ds'.length ≤ ds.length + 1 ∧ ∀ g, ds'.lookup g = if g = f then some d else ds.lookup g
  | _, _, .nil => ⟨[(f, d)], .cons r .nil, Nat.le_refl _, fun g => by
    rw [List.lookup_cons]
    by_cases hg : g = f
    · subst hg; simp
    · rw [if_neg hg, beq_eq_false_iff_ne.mpr hg]⟩
  | _, _, @RepF.cons _ _ _ k d' v' ds vs r' t => by
    by_cases hk : k = f
    · subst hk
      refine ⟨(k, d) :: ds, ?_, Nat.le_succ _, fun g => ?_⟩
      · show RepF K H ((k, d) :: ds) (if k = k then (k, v) :: vs else (k, v') :: L2.putF k v vs)
        rw [if_pos rfl]
        exact .cons r t
      · rw [List.lookup_cons, List.lookup_cons]
        by_cases hg : g = k
        · subst hg; simp
        · rw [if_neg hg, beq_eq_false_iff_ne.mpr hg]
    · obtain ⟨ds', h1, h2, h3⟩ := RepF.putF (f := f) r t
      refine ⟨(k, d') :: ds', ?_, Nat.succ_le_succ h2, fun g => ?_⟩
      · show RepF K H ((k, d') :: ds') (if k = f then (k, v) :: vs else (k, v') :: L2.putF f v vs)
        rw [if_neg hk]
        exact .cons r' h1
      · rw [List.lookup_cons, List.lookup_cons, h3]
        by_cases hg : g = k
        · subst hg; simp [hk]
        · rw [beq_eq_false_iff_ne.mpr hg]
end
/-- a field written -/
def putD (f : Str) (v : D) : List (Str × D) → List (Str × D)
  | [] => [(f, v)]
  | (g, u) :: r => if g = f then (f, v) :: r else (g, u) :: putD f v r
section
variable {X : Cx} {cl : ClsT} {H0 : Hp} {C0 : CH} {a b e o : Expr} {ca cb co : CTE} {pos : Pos}
theorem RepF.putD {K : PySem.W.Frag} {H : Hp} {f : Str} {d : D} {v : V} (r : Rep K H d v) : ∀ {ds : List (Str × D)} {vs : List (Str × V)}, RepF K H ds vs → RepF K H (L3.putD f d ds) (L2.putF f v vs)
  | _, _, .nil => .cons r .nil
  | _, _, @RepF.cons _ _ _ k d' v' ds vs r' t => by
    rw [L3.putD, L2.putF]
    by_cases hk : k = f
    · rw [if_pos hk, if_pos hk]; first | exact .cons r t | (subst hk; exact .cons r t)
    · rw [if_neg hk, if_neg hk]; exact .cons r' (RepF.putD r t)
def sFldC (f : Str) (ok : Nat → Prop) (a o : CTE) : CTS := fun D σ C => a σ C fun z C1 => o σ C1 fun d C2 => ∃ p c fs, d = .ref p ∧ C2 p = some (.ins c fs) ∧ ok c ∧ fs.length < 1000 ∧ D.nx σ (cup C2 p (.ins c (putD f z fs)))
theorem cps_fld {f : Str} {ok : Nat → Prop} {pos' : Pos} (hok : ∀ c Ca, ok c → cl c = some Ca → Cls X.K Ca ∧ NoAttr X.K Ca f) (ho : CPE X cl H0 C0 o co) (he : CPE X cl H0 C0 e ca) (hs : swapsWith e (some (.Attribute o f pos')) pos.line X.env = pure false) : CPS X cl H0 C0 (.Assign [.Attribute o f pos'] e pos) (sFldC f ok ca co) :=
  (ps_fld ho he hs).imp fun D σ H ⟨σc, C, Dc, S, h, hq⟩ => ⟨σc, C, _, S, h, fun z C1 w H1 h1 rz R1 k1 => ⟨σc, C1, _, S.step k1 R1, h1, fun d C2 v H2 ⟨p, c, fs, h2, h3, h4, h5, q⟩ rv R2 k2 => by
    subst h2; cases rv
    obtain ⟨Ca, dx, fv, hc, e1, rf⟩ := R2 p _ h3
    obtain ⟨k3, k4⟩ := hok c Ca h4 hc
    have kw : Keep H2 C2 (upd H2 p (.ins Ca dx (L2.putF f w fv))) (cup C2 p (.ins c (putD f z fs))) := Keep.write h3 _ _
    refine ⟨p, Ca, dx, fv, rfl, e1, k3, k4, by rw [← rf.length]; exact h5, hq.nx _ _ _ _ q ((((S.step k1 R1).step k2 R2).s).keep R2 kw) (R2.write h3 e1 (fun xs h => ?_) ⟨Ca, dx, _, hc, upd_same, ((RepF.putD (rz.keep R1 k2) rf).keep R2 kw)⟩) ((k1.trans k2).trans kw)⟩
    rcases h with h | ⟨u, h⟩ <;> (rw [e1] at h; cases h)⟩⟩
end
end L3

namespace L3
open PySem L2
section
variable {X : Cx} {cl : ClsT} {H0 : Hp} {C0 : CH} {pos : Pos} {ex : Kxs}
/-! ### isinstance -/
/-- a value's type: a built-in one by name, an own class by number -/
def tyC (C : CH) : D → Option (String ⊕ Nat)
  | .non => some (.inl "NoneType")
  | .bl _ => some (.inl "bool")
  | .int _ => some (.inl "int")
  | .str _ => some (.inl "str")
  | .tup _ => some (.inl "tuple")
  | .rls _ => some (.inl "list")
  | .ty _ => none
  | .ref a => match C a with
    | some (.lst _) => some (.inl "list")
    | some (.dic _) => some (.inl "dict")
    | some (.dtk _) => none
    | some (.ins c _) => some (.inr c)
    | none => none
def tyVal (cl : ClsT) : String ⊕ Nat → Option Value
  | .inl n => some (.type n)
  | .inr c => (cl c).map .ref
theorem tyC_ok {K : PySem.W.Frag} {H : Hp} {C : CH} {d : D} {v : V} {t : String ⊕ Nat} (hc : ∀ c Ca, t = .inr c → cl c = some Ca → ClsOk K Ca) (r : Rep K H d v) (R : Rel K cl H C) (e : tyC C d = some t) : ∃ u, tyVal cl t = some u ∧ TyX K H v u := by
  cases r with
  | non => cases e; exact ⟨_, rfl, .base .non⟩
  | bl b => cases e; exact ⟨_, rfl, .base (.bl b)⟩
  | int b => cases e; exact ⟨_, rfl, .base (.int b)⟩
  | str b => cases e; exact ⟨_, rfl, .base (.str b)⟩
  | ty n => cases e
  | tup s _ =>
    cases e
    refine ⟨_, rfl, ?_⟩
    rcases s with (s | ⟨o, s⟩) | ⟨o, _, _, h1, h2, _⟩
    · exact .base (.tup s)
    · exact .fTuple s
    · exact .kTuple h1 h2
  | rls s _ =>
    cases e
    refine ⟨_, rfl, ?_⟩
    rcases s with ⟨o, s⟩ | ⟨o, _, _, h1, h2, _⟩
    · exact .base (.frz s)
    · exact .kList h1 h2
  | ref a =>
    unfold tyC at e
    simp only at e
    cases q : C a with
    | none => rw [q] at e; cases e
    | some o =>
      rw [q] at e
      have ok := R a o q
      cases o with
      | lst ds => cases e; obtain ⟨vs, h, _⟩ := ok; exact ⟨_, rfl, .base (.lst h)⟩
      | dic ds => cases e; obtain ⟨vs, h, _⟩ := ok; exact ⟨_, rfl, .base (.dK h)⟩
      | dtk ds => cases e
      | ins c ds =>
        cases e
        obtain ⟨Ca, dx, vs, h0, h, _⟩ := ok
        have k := hc c Ca rfl h0
        exact ⟨.ref Ca, by show (cl c).map Value.ref = _; rw [h0]; rfl, .base (.ins h k.cls k.ha k.hn k.htk k.hm)⟩
/-- isinstance(e, T): kit tells what is of what -/
def oIsi (kit : String ⊕ Nat → String ⊕ Nat → Option Bool) (u : String ⊕ Nat) : O1 := fun d C Q => ∃ t b, tyC C d = some t ∧ kit t u = some b ∧ Q (.bl b) C
def KitOk (K : PySem.W.Frag) (cl : ClsT) (kit : String ⊕ Nat → String ⊕ Nat → Option Bool) : Prop := ∀ t u b vt, kit t u = some b → tyVal cl t = some vt → ∃ vu, tyVal cl u = some vu ∧ PySem.W.kitOne K vt vu = some b
theorem cpe_isi {kit : String ⊕ Nat → String ⊕ Nat → Option Bool} {u : String ⊕ Nat} {e c : Expr} {ca : CTE} {p : Pos} {vc : V} (hkit : KitOk X.K cl kit) (hcl : ∀ c Ca b, kit (.inr c) u = some b → cl c = some Ca → ClsOk X.K Ca) (he : CPE X cl H0 C0 e ca) (hc : PE X c (tC vc)) (hcv : ∀ w, tyVal cl u = some w → ClsV vc w) (hg : Gl X "isinstance") (hm : X.mg "isinstance" = none)
    (h1 : notStar e = true) (h2 : notStar c = true) : CPE X cl H0 C0 (.Call (.Name "isinstance" p) [e, c] [] pos) (cUn (oIsi kit u) ca) :=
  (pe_callB call_isi hg hm (by decide +kernel) (pa_cons he (pa_cons hc pa_nil (star_of h2)) (star_of h1)) (by decide) (by decide) (star_of h1) (star_any (by simp [h2]))).imp fun σ H Q ⟨σc, C, Qc, S, h, hq⟩ => ⟨σc, C, _, S, h, fun d C1 v H1 ⟨t, b, e1, e2, q⟩ rv R1 k1 => by
    obtain ⟨w, e3, ty⟩ := tyC_ok (fun c Ca z hc' => hcl c Ca b (by rw [← z]; exact e2) hc') rv R1 e1
    obtain ⟨wu, e4, e5⟩ := hkit t u b w e2 e3
    exact ⟨v, vc, w, wu, b, rfl, hcv wu e4, ty, e5, (hq.from_ k1).now q (.bl b) R1⟩⟩
/-! ### raise -/
/-- raise X("..") of an own class without __init__ -/
def sRaise (c : Nat) (ex : Kxs) : CTS := fun _ σ C => ex ⟨c, []⟩ σ C
theorem cps_raise {c : Nat} {Ca : Addr} {bmB : List Value} {B newId initId : String} {x m : Str} {j : Nat} {p p2 pos' : Pos} (hc : cl c = some Ca) (F : ExcBaseFacts B newId initId bmB) (q : PySem.W.excIn X.K Ca bmB newId = true) (gC : X.mg x = some (.ref Ca)) (kC : PySem.W.keepIn X.K (.ref Ca) = true) (r : Raises X (.ref Ca)) (hg : Gl X x)
    (hdb : (x == ("__debug__" : Str)) = false) (hcalm : X.calm = true) (tk : Takes X (WC X.K cl H0 C0 ex)) : CPS X cl H0 C0 (.Raise (some (.Call (.Name x p) [.Constant (.str m) j p2] [] pos')) none pos) (sRaise c ex) :=
  (ps_raise hcalm tk (pmk_own F q gC kC r hg hdb)).imp fun D σ H ⟨σc, C, Dc, S, h, hq⟩ => ⟨_, σc, C, h, ⟨Ca, hc, rfl, .inl ⟨rfl, rfl⟩⟩, S⟩
/-! ### try: body, except X: suite -/
/-- the suite is one of few forms: nothing is called in it -/
def sTry (sub : Nat → Bool) (b : Kxs → CTS) (s : CTS) (ex : Kxs) : CTS := fun D σ C => b (fun x σ1 C1 => if sub x.cls = true then s D σ1 C1 else ex x σ1 C1) D σ C
/-- every class of the program that is raised is told apart by the clause -/
def SubOk (K : PySem.W.Frag) (cl : ClsT) (c : Value) (sub : Nat → Bool) : Prop := ∀ i Ca, cl i = some Ca → PySem.W.exmOne K (.ref Ca) c = some (sub i)
theorem cps_try {x : Str} {c : Value} {body suite : List Stmt} {b0 : Stmt} {np pos' : Pos} {sub : Nat → Bool} {b : Kxs → CTS} {s : CTS} (hs : X.stack = X.env :: X.outer) (hf : X.env.frame = some X.env.locals) (hc : Names X x c) (hsub : SubOk X.K cl c sub) (tk : Takes X (WC X.K cl H0 C0 ex))
    (hb : ∀ (pn : List (Addr × Obj)) (xe : Value → Shared → Prop) (ex' : Kxs) (H1 : Hp) (C1 : CH), Takes (X.tr pn xe) (WC X.K cl H1 C1 ex') → PassesOwn (model X.prog X.w) X.A X.env xe → CPSs (X.tr pn xe) cl H1 C1 body (b ex'))
    (hsu : ∀ (a : Addr) (oe : Obj) (pn : List (Addr × Obj)), CPSs (X.suite a ((a, oe) :: pn)) cl H0 C0 (b0 :: suite) s) :
    CPS X cl H0 C0 (.Try body [.ExceptHandler (some (.Name x np)) none (b0 :: suite) pos'] [] [] pos) (sTry sub b s ex) :=
  (ps_try_only (tb := fun W D σ H => ∃ ex' H1 C1, (∀ cls d σ H, WC X.K cl H1 C1 ex' cls d σ H → W cls d σ H) ∧ tS X.K cl H1 C1 (b ex') D σ H) (ts := fun _ _ _ => tS X.K cl H0 C0 s) hs hf hc tk (fun W pn xe tk' po => ⟨fun pins st σ H D I ⟨ex', H1, C1, hw, h⟩ => (hb pn xe ex' H1 C1 (tk'.imp hw) po).run pins st σ H D I h⟩)
    fun a oe cls d pn _ _ => hsu a oe pn).imp fun D σ H ⟨σc, C, Dc, S, h, hq⟩ => by
    refine ⟨_, H, C, fun cls d σ' H' ⟨y, σ1, C1, hy, ⟨Ca, e1, e2, e3⟩, S1⟩ => ?_, σc, C, Dc, ⟨S.s, S.r, Keep.refl⟩, h, hq⟩
    subst e2
    have hy' : if sub y.cls = true then s Dc σ1 C1 else ex y σ1 C1 := hy
    have S2 : S3 X.K cl H0 C0 σ' H' σ1 C1 := ⟨S1.s, S1.r, S.f.trans S1.f⟩
    refine ⟨_, hsub _ _ e1, fun hyes a ha => ?_, fun hno => ?_⟩
    · rw [if_pos hyes] at hy'
      exact ⟨σ1, C1, Dc, S2, hy', hq.from_ S1.f⟩
    · rw [hno] at hy'
      exact ⟨y, σ1, C1, hy', ⟨Ca, e1, rfl, e3⟩, S2⟩
/-- except X as n -/
theorem cps_try_as {x n : Str} {i : Nat} {c : Value} {body suite : List Stmt} {b0 : Stmt} {np pos' : Pos} {sub : Nat → Bool} {b : Kxs → CTS} {s : Nat → CTS} (hs : X.stack = X.env :: X.outer) (hf : X.env.frame = some X.env.locals) (hN : X.N.Nodup) (hi : X.N[i]? = some n) (hln : X.env.kindOf n = some .local) (hc : Names X x c) (hsub : SubOk X.K cl c sub) (tk : Takes X (WC X.K cl H0 C0 ex))
    (hb : ∀ (pn : List (Addr × Obj)) (xe : Value → Shared → Prop) (ex' : Kxs) (H1 : Hp) (C1 : CH), Takes (X.tr pn xe) (WC X.K cl H1 C1 ex') → PassesOwn (model X.prog X.w) X.A X.env xe → CPSs (X.tr pn xe) cl H1 C1 body (b ex'))
    (hsu : ∀ (a : Addr) (oe : Obj) (pn : List (Addr × Obj)) (k : Nat), CPSs (X.suite a ((a, oe) :: pn)) cl H0 C0 (b0 :: suite) (s k)) :
    CPS X cl H0 C0 (.Try body [.ExceptHandler (some (.Name x np)) (some n) (b0 :: suite) pos'] [] [] pos)
      (fun D σ C => b (fun y σ1 C1 => if sub y.cls = true then ∀ a, C1 a = none → s y.cls { D with nx := fun σ' C' => D.nx (σ'.set i none) C', bk := fun σ' C' => D.bk (σ'.set i none) C', ct := fun σ' C' => D.ct (σ'.set i none) C' } (σ1.set i (some (.ref a))) C1 else ex y σ1 C1) D σ C) :=
  (ps_try_as (tb := fun W D σ H => ∃ ex' H1 C1, (∀ cls d σ H, WC X.K cl H1 C1 ex' cls d σ H → W cls d σ H) ∧ tS X.K cl H1 C1 (b ex') D σ H) (ts := fun _ cls _ D σ H => ∃ k, tS X.K cl H0 C0 (s k) D σ H) hs hf hN hi hln hc tk (fun W pn xe tk' po => ⟨fun pins st σ H D I ⟨ex', H1, C1, hw, h⟩ => (hb pn xe ex' H1 C1 (tk'.imp hw) po).run pins st σ H D I h⟩)
    fun a oe cls d pn _ _ => ⟨fun pins st σ H D I ⟨k, h⟩ => (hsu a oe pn k).run pins st σ H D I h⟩).imp fun D σ H ⟨σc, C, Dc, S, h, hq⟩ => by
    refine ⟨_, H, C, fun cls d σ' H' ⟨y, σ1, C1, hy, ⟨Ca, e1, e2, e3⟩, S1⟩ => ?_, σc, C, Dc, ⟨S.s, S.r, Keep.refl⟩, h, hq⟩
    subst e2
    have hy' : if sub y.cls = true then ∀ a, C1 a = none → s y.cls { Dc with nx := fun σ' C' => Dc.nx (σ'.set i none) C', bk := fun σ' C' => Dc.bk (σ'.set i none) C', ct := fun σ' C' => Dc.ct (σ'.set i none) C' } (σ1.set i (some (.ref a))) C1 else ex y σ1 C1 := hy
    have S2 : S3 X.K cl H0 C0 σ' H' σ1 C1 := ⟨S1.s, S1.r, S.f.trans S1.f⟩
    refine ⟨_, hsub _ _ e1, fun hyes a ha => ?_, fun hno => ?_⟩
    · rw [if_pos hyes] at hy'
      have hq1 := hq.from_ S1.f
      exact ⟨y.cls, _, C1, _, ⟨S2.s.set (.ref a) i, S2.r, S2.f⟩, hy' a (free_of S2.r ha), ⟨fun σc' C' σ'' H'' q r R k => hq1.nx _ _ _ _ q (r.wipe1 i) R k, hq1.rt, fun σc' C' σ'' H'' q r R k => hq1.bk _ _ _ _ q (r.wipe1 i) R k, fun σc' C' σ'' H'' q r R k => hq1.ct _ _ _ _ q (r.wipe1 i) R k⟩⟩
    · rw [hno] at hy'
      exact ⟨y, σ1, C1, hy', ⟨Ca, e1, rfl, e3⟩, S2⟩
end
/-! ### a def's body keeps its promise -/
def start3 (N : List Str) (ds : List D) : Env3 := ds.map some ++ List.replicate (N.length - ds.length) none
theorem start_rep {K : PySem.W.Frag} {H : Hp} {N : List Str} {ds : List D} {vs : List V} (r : RepL K H ds vs) : RepS K H (start3 N ds) (L2.start N vs) := by
  unfold start3 L2.start
  rw [r.length]
  have tail : ∀ n : Nat, RepS K H (List.replicate n none) (List.replicate n none) := by
    intro n
    induction n with
    | zero => exact .nil
    | succ n ih => rw [List.replicate_succ, List.replicate_succ]; exact .no ih
  have go : ∀ {ds : List D} {vs : List V} {n : Nat}, RepL K H ds vs → RepS K H (ds.map some ++ List.replicate n none) (vs.map some ++ List.replicate n none) := by
    intro ds
    induction ds with
    | nil => intro vs n r; cases r; exact tail n
    | cons d ds ih =>
      intro vs n r
      cases r with
      | cons r t => exact .so r (ih t)
  exact go r
/-- what the clean rules ask of a context -/
structure XOk (P : Program) (w : World) (K : PySem.W.Frag) (mg : Str → Option Value) (base : Heap) (n : Nat) (N : List Str) (sc : Scope) (top : Bool) (X : Cx) : Prop where
  P_ : X.prog = P
  w_ : X.w = w
  K_ : X.K = K
  mg_ : X.mg = mg
  base_ : X.base = base
  N_ : X.N = N
  nd : N.Nodup
  sc_ : X.env.scope = sc
  kind : sc.kind = .function
  calm : X.calm = true
  room : Room n X.A
  loc : top = true → ∀ x, Loc sc x → X.fn x = true ∨ sc.names.lookup x = some .local
  po : PassesOwn (model X.prog X.w) X.A X.env X.xe
  gd : X.A.guards = some []
  fr : top = true → X.stack = X.env :: X.outer ∧ X.env.frame = some X.env.locals
end L3

namespace L3
open PySem L2 PySem.Spec PyProof.Rows
/-! ### == of deep data -/
def deepOk (p : PyData) : Bool := p.canLay0 && decide (p.depth ≤ 350)
def oEqN (f : Bool → Bool) : O2 := fun x y C Q => ∃ p q, Snap C x p ∧ Snap C y q ∧ deepOk p = true ∧ deepOk q = true ∧ Q (.bl (f (PyData.eqv p q))) C
def rEqN (f : Bool → Bool) (K : PySem.W.Frag) : R2 := fun x y H Q => ∃ d e, Dp K H x d ∧ Dp K H y e ∧ deepOk d = true ∧ deepOk e = true ∧ Q (.bl (f (PyData.eqv d e))) H
section
variable {X : Cx} {cl : ClsT} {K : PySem.W.Frag}
theorem op_eqN (hu : X.A.units + 350 < cLine) : OpR X (compareOp .Eq) (rEqN id X.K) := by
  intro pins s σ H x y v u Q I rx ry h
  obtain ⟨d, e, hd, he, sd, se, q⟩ := h
  obtain ⟨as, r1⟩ := Dp.reads I d x v hd rx
  obtain ⟨bs, r2⟩ := Dp.reads I e y u he ry
  unfold deepOk at sd se
  simp only [Bool.and_eq_true, decide_eq_true_eq] at sd se
  have h2 : min d.depth e.depth ≤ d.depth := Nat.min_le_left _ _
  exact SeqAt.compareEq_reads r1 r2 sd.1 se.1 (by omega) ⟨.bl _, H, I, rfl, q⟩
theorem op_neN (hu : X.A.units + 350 < cLine) : OpR X (compareOp .NotEq) (rEqN not X.K) := by
  intro pins s σ H x y v u Q I rx ry h
  obtain ⟨d, e, hd, he, sd, se, q⟩ := h
  obtain ⟨as, r1⟩ := Dp.reads I d x v hd rx
  obtain ⟨bs, r2⟩ := Dp.reads I e y u he ry
  unfold deepOk at sd se
  simp only [Bool.and_eq_true, decide_eq_true_eq] at sd se
  have h2 : min d.depth e.depth ≤ d.depth := Nat.min_le_left _ _
  exact SeqAt.compareNe_reads r1 r2 sd.1 se.1 (by omega) ⟨.bl _, H, I, rfl, q⟩
theorem lk_eqN (f : Bool → Bool) : Lk2 K cl (rEqN f K) (oEqN f) := fun H C d e v u Q Qc rd re R ⟨p, q, h1, h2, h3, h4, h5⟩ hq => ⟨p, q, h1.dp R rd, h2.dp R re, h3, h4, hq.now h5 (.bl _) R⟩
/-! ### tuple * int -/
def oMulT : O2 := fun x y C Q => ∃ xs k, x = .tup xs ∧ y = .int k ∧ xs ≠ [] ∧ 1 ≤ k ∧ k ≤ 1000 ∧ xs.length ≤ 1000 ∧ Q (.tup (List.replicate k.toNat xs).flatten) C
theorem RepL.rep {H : Hp} {ds : List D} {vs : List V} (r : RepL K H ds vs) : ∀ n : Nat, RepL K H (List.replicate n ds).flatten (List.replicate n vs).flatten
  | 0 => .nil
  | n + 1 => by
    rw [List.replicate_succ, List.replicate_succ, List.flatten_cons, List.flatten_cons]
    exact r.append (RepL.rep r n)
theorem tuple_mul1 (l : Addr) (items : Array Value) (n : Nat) (dd : Option Addr) (sl : Array (Option Value)) (x : Int) (u : Tok) (hx : x = 1) (c0 : (decide (x < -(2 ^ 63)) || decide (x ≥ 2 ^ 63)) = false) (c1 : (items.isEmpty || x == 1) = true) :
    Meets (Builtin.«tuple.__mul__» ⟨[.ref l, .int x u], []⟩) (fun _ R s => s.heap.get? l = some { cls := .type "tuple", dict := dd, data := .seq items n, slots := sl } ∧ R (.ok (.ret (Value.ref l))) s) :=
  .of_wp fun prog w A R s h => by
    obtain ⟨hp, g, d, tk, os⟩ := s
    obtain ⟨hl, h⟩ := h
    have f1 := AutoSeq1.idx_int
    wp_walk using AutoSeq1.wpAny_loadPart' hl
    repeat (first
      | (refine wpAny_ite_false (decide_eq_false (by rw [c0]; exact Bool.false_ne_true)) ?_; wp_walk using AutoSeq1.wpAny_loadPart' hl)
      | (refine wpAny_ite_true (decide_eq_true c1) ?_; wp_walk using AutoSeq1.wpAny_loadPart' hl))
    exact ⟨_, rfl, h⟩
def rRepU (K : PySem.W.Frag) : R2 := fun x y H Q => ∃ l k xs, x = .ref l ∧ y = .int k ∧ SqT K H l xs ∧ xs ≠ [] ∧ k ≤ 1000 ∧ xs.length ≤ 1000 ∧ ((k = 1 ∧ Q (.ref l) H) ∨ (2 ≤ k ∧ ∀ p, H p = none → Q (.ref p) (upd H p (.tup (List.replicate k.toNat xs).flatten))))
theorem op_repU : OpR X (binaryOp .Mult) (rRepU X.K) := by
  intro pins s σ H x y v u Q I rx ry h
  obtain ⟨l, k, xs, ex, ey, hT, hne, h2, hz, ⟨hk, q⟩ | ⟨hk, q⟩⟩ := h
  · subst ex ey
    cases rx
    obtain ⟨t, rfl⟩ := ry
    obtain ⟨its, r, ⟨⟨cls, dd, data, sl⟩, ho, hc, n, hd⟩, hs⟩ := I.tuple hT
    simp only at hc hd
    subst hc hd
    have c0 : (decide (k < -(2 ^ 63)) || decide (k ≥ 2 ^ 63)) = false := by subst hk; decide
    have c1 : (its.toArray.isEmpty || k == 1) = true := by subst hk; simp
    refine wpAny_binaryOp_repeat_ref (T := "tuple") (U := "int") (by decide) ⟨_, ho, rfl⟩ (fun s' => typeIs_int s' k t) noFill_tuple_mul F.fills_int_mul F.slot_int_rmul repeat_tuple F.slot_int_index.lookup
      (call_meets F.slot_int_rmul (typeIs_int s k t) F.entry_int_rmul (F.args_int_rmul_2 _ _) (int_rmul_tuple k t l its.toArray n dd sl)
        ⟨ho, rfl, ⟨_, ho, rfl⟩, call_meets F.slot_tuple_mul ⟨_, ho, rfl⟩ F.entry_tuple_mul (F.args_tuple_mul_2 _ _) (tuple_mul1 l its.toArray n dd sl k t hk c0 c1) ⟨ho, ?_⟩⟩)
    exact ⟨.ref l, H, I, rfl, q⟩
  · exact op_repT pins s σ H x y v u Q I rx ry ⟨l, k, xs, ex, ey, hT, hne, hk, h2, hz, q⟩
theorem lk_mulT : Lk2 K cl (rRepU K) oMulT := fun H C d e v u Q Qc rd re R ⟨xs, k, h1, h2, h3, h4, h5, h6, q⟩ hq => by
  subst h1; subst h2
  cases re
  cases rd with
  | tup s r =>
    refine ⟨_, k, _, rfl, rfl, s, fun z => by subst z; cases r; exact h3 rfl, h5, by rw [← r.length]; exact h6, ?_⟩
    by_cases hk : k = 1
    · refine .inl ⟨hk, ?_⟩
      subst hk
      have e : (List.replicate (1 : Int).toNat xs).flatten = xs := by simp
      rw [e] at q
      exact hq.now q (.tup s r) R
    · exact .inr ⟨by omega, fun p hp => hq.tup q (r.rep _) R hp⟩
/-- int * int, tuple * int -/
def oMulA : O2 := fun x y C Q => match x, y with
  | .int i, .int j => CMul i j ∧ Q (.int (i * j)) C
  | .tup xs, .int k => xs ≠ [] ∧ 1 ≤ k ∧ k ≤ 1000 ∧ xs.length ≤ 1000 ∧ Q (.tup (List.replicate k.toNat xs).flatten) C
  | .ref a, .int k => ∃ xs, C a = some (.lst xs) ∧ -(2 ^ 63) ≤ k ∧ k < 2 ^ 63 ∧ xs.length * k.toNat ≤ sizeLine ∧ ∀ p, C p = none → Q (.ref p) (cup C p (.lst (List.replicate k.toNat xs).flatten))
  | _, _ => False
/-! ### extend by a tuple -/
def rExtendT (K : PySem.W.Frag) : V → List V → Hp → VK → Prop := fun x vs H Q => ∃ l b xs zs, x = .ref l ∧ vs = [.ref b] ∧ H l = some (.lst xs) ∧ SqT K H b zs ∧ xs.length + zs.length ≤ sizeLine ∧ Q .non (upd H l (.lst (xs ++ zs)))

theorem ext_tup (l : Addr) (items : Array Value) (n : Nat) (b : Addr) (items2 : Array Value) (n2 : Nat) (dd : Option Addr) (sl : Array (Option Value)) (hs0 : ¬(!items.isEmpty && Builtin.List.listTooLong (items.size + items2.size)) = true) (hs1 : items.size ≤ sizeLine) (hs2 : items.size + items2.size ≤ sizeLine + 1) :
    Meets (Builtin.«list.extend» ⟨[.ref l, .ref b], []⟩) (fun _ R s => s.heap.get? l = some { cls := .type "list", dict := none, data := .seq items n, slots := #[] } ∧ s.heap.get? b = some { cls := .type "tuple", dict := dd, data := .seq items2 n2, slots := sl } ∧ R (.ok (.ret Value.none)) { s with heap := s.heap.update l (Obj.mapSeq fun x => x ++ items2), toks := s.toks }) :=
  .of_wp fun prog w A R s h => by
    obtain ⟨hp, g, d, tk, os⟩ := s; obtain ⟨hl, hb, h⟩ := h; have f1 := AutoSeq1.idx_int; have f2 := AutoSeq1.sub_tuple_tuple; have f3 := AutoSeq1.sub_list_list; have f4 := AutoSeq1.sub_tuple_list; have f5 := AutoSeq1.sub_list_tuple;
    have hz' : (items ++ items2).size ≤ sizeLine + 1 := by rw [Array.size_append]; exact hs2
    wp_walk using (wpAny_updateSeq hl rfl (hz := hs1) (_hz' := hz')), AutoSeq1.wpAny_loadPart' hl, AutoSeq1.wpAny_loadPart' hb; exact ⟨_, rfl, h⟩
theorem mt_extendT : MtM X "list.extend" (rExtendT X.K) := by
  intro pins s σ H x vs v us Q I rx rv h
  obtain ⟨l, b, xs, zs, rfl, rfl, hH, hB, hz, q⟩ := h
  cases rx
  obtain ⟨u, rfl, ru⟩ := rv.one
  cases ru
  obtain ⟨z, its, n, r, hl, e⟩ := I.lstM hH
  obtain ⟨its2, r2, ⟨⟨cls, dd, data, sl⟩, ho, hc, n2, hd⟩, hs2⟩ := I.tuple hB
  simp only at hc hd
  subst hc hd
  have hle : its.length = xs.length := r.length.symm
  have hle2 : its2.length = zs.length := r2.length.symm
  have hsz : its.toArray.size + its2.toArray.size ≤ sizeLine := by rw [List.size_toArray, List.size_toArray]; omega
  have hlong : ¬ (!its.toArray.isEmpty && Builtin.List.listTooLong (its.toArray.size + its2.toArray.size)) = true := by
    rw [notLongL hsz, Bool.and_false]
    exact Bool.false_ne_true
  refine call_meets F.slot_list_extend ⟨_, e, rfl⟩ F.entry_list_extend (F.args_list_extend_2 _ _)
    (ext_tup l its.toArray n b its2.toArray n2 dd sl hlong (by rw [List.size_toArray]; omega) (by omega)) ⟨e, ho, ?_⟩
  refine ⟨.non, _, I.lset (its' := its ++ its2) hH e (by simp) (r.append r2) ?_, rfl, q⟩
  rw [List.length_append]
  omega
def oExtendA : OM := fun d ds C Q => ∃ p xs y ys, d = .ref p ∧ ds = [y] ∧ C p = some (.lst xs) ∧ (y = .tup ys ∨ ∃ b, y = .ref b ∧ C b = some (.lst ys)) ∧ xs.length + ys.length ≤ sizeLine ∧ Q .non (cup C p (.lst (xs ++ ys)))
theorem lk_extendA : LkM K cl (fun x vs H Q => rExtend x vs H Q ∨ rExtendT K x vs H Q) oExtendA := fun H C d v ds vs Q Qc r rs R ⟨p, xs, y, ys, h1, h2, h3, h4, h5, q⟩ hq => by
  rcases h4 with h4 | ⟨b, h4, h6⟩
  · right
    subst h1; subst h2; subst h4; cases r
    obtain ⟨u, rfl, ru⟩ := rs.one
    obtain ⟨ws, e1, r1⟩ := R p _ h3
    cases ru with
    | tup s r2 => exact ⟨p, _, ws, _, rfl, rfl, e1, s, by rw [← r1.length, ← r2.length]; exact h5, hq _ _ _ _ q .non (R.wlst h3 e1 (r1.append r2)) (Keep.write h3 _ _)⟩
  · left
    subst h4
    exact lk_extend H C d v ds vs Q Qc r rs R ⟨p, b, xs, ys, h1, h2, h3, h6, h5, q⟩ hq
/-! ### a, b, c = x, y, z -/
variable {H0 : Hp} {C0 : CH} {pos : Pos}
def sPar3 (i j l : Nat) (a : CTA) : CTS := fun D σ C => a σ C fun ds C1 => ∃ d e f, ds = [d, e, f] ∧ D.nx (((σ.set i (some d)).set j (some e)).set l (some f)) C1
theorem cps_par3 {i j l : Nat} {x y z : Str} {a b c : Expr} {cs : CTA} {px py pz pt : Pos} {kt k2 pt2} (hc : X.calm = true) (hN : X.N.Nodup) (hi : X.N[i]? = some x) (hj : X.N[j]? = some y) (hl : X.N[l]? = some z) (hij : i ≠ j) (hil : i ≠ l) (hjl : j ≠ l)
    (hx : X.env.scope.names.lookup x = some .local) (hy : X.env.scope.names.lookup y = some .local) (hz : X.env.scope.names.lookup z = some .local) (ha : CPA X cl H0 C0 [a, b, c] cs)
    (hw : swappedStores [.Tuple [.Name x px, .Name y py, .Name z pz] kt pt] (.Tuple [a, b, c] k2 pt2) X.env = pure (some [x, y, z]))
    (hs : swapsWithSole [.Tuple [.Name x px, .Name y py, .Name z pz] kt pt] (.Tuple [a, b, c] k2 pt2) pos.line X.env = pure false) :
    CPS X cl H0 C0 (.Assign [.Tuple [.Name x px, .Name y py, .Name z pz] kt pt] (.Tuple [a, b, c] k2 pt2) pos) (sPar3 i j l cs) :=
  (ps_par3 hc hN hi hj hl hij hil hjl hx hy hz ha hw hs).imp fun D σ H ⟨σc, C, Dc, S, h, hq⟩ => ⟨σc, C, _, S, h, fun ds C1 vs H1 ⟨d, e, f, h1, h2⟩ rs R1 k1 => by
    subst h1
    cases rs with
    | cons r1 t =>
      obtain ⟨u, w, rfl, r2, r3⟩ := t.two
      exact ⟨_, u, w, rfl, hq.nx _ _ _ _ h2 ((((S.s.keep S.r k1).set r1 i).set r2 j).set r3 l) R1 k1⟩⟩
end
end L3

namespace L3
open PySem L2 PySem.Spec PyProof.Rows
/-! dicts whose keys are tuples of any depth (to 8) -/
section
variable {X : Cx} {cl : ClsT} {H0 : Hp} {C0 : CH} {K : PySem.W.Frag} {H : Hp} {C : CH} {pins : List (Addr × Obj)} {σ : L2.St} {s : Shared}
mutual
theorem nested_of (I : Inv X pins σ H s) : ∀ {d : D} {v : V} {u : Value} {k : NestedKey}, Rep X.K H d v → RelV v u → keyT d = some k → NestedIs s.heap k u
  | .non, _, _, _, .non, r, e => by cases r; simp only [keyT, Option.some.injEq] at e; subst e; exact .none
  | .bl b, _, _, _, .bl _, r, e => by cases r; simp only [keyT, Option.some.injEq] at e; subst e; exact .bool rfl
  | .int b, _, _, _, .int _, r, e => by obtain ⟨t, rfl⟩ := r; simp only [keyT, Option.some.injEq] at e; subst e; exact .int _ _
  | .str b, _, _, _, .str _, r, e => by obtain ⟨t, rfl⟩ := r; simp only [keyT, Option.some.injEq] at e; subst e; exact .text _ _
  | .tup ds, _, _, _, .tup sq rr, r, e => by
    cases r
    simp only [keyT] at e
    cases q : keysT ds with
    | none => rw [q] at e; cases e
    | some ks =>
      rw [q] at e
      simp only [Option.some.injEq] at e
      subst e
      obtain ⟨its, rv, ⟨o, ho, hc, n, hd⟩, _⟩ := I.tuple sq
      exact .tup ho hc hd (by simpa using nesteds_of I rr rv q)
theorem nesteds_of (I : Inv X pins σ H s) : ∀ {ds : List D} {vs : List V} {us : List Value} {ks : List NestedKey}, RepL X.K H ds vs → Vals vs us → keysT ds = some ks → NestedAll s.heap ks us
  | [], _, _, _, .nil, .nil, e => by simp only [keysT, Option.some.injEq] at e; subst e; exact .nil
  | d :: ds, _, _, _, .cons r t, .cons rv rt, e => by
    simp only [keysT] at e
    cases q : keyT d with
    | none => rw [q] at e; cases e
    | some k =>
      cases q2 : keysT ds with
      | none => rw [q, q2] at e; cases e
      | some ks =>
        rw [q, q2] at e
        simp only [Option.some.injEq] at e
        subst e
        exact .cons (nested_of I r rv q) (nesteds_of I t rt q2)
end
/-- the tuple at b is the key k -/
def KeyAt (K : PySem.W.Frag) (H : Hp) (k : NestedKey) (b : Addr) : Prop := k.depth ≤ 8 ∧ ∃ t, keyT t = some k ∧ Rep K H t (.ref b)
theorem KeyAt.is (I : Inv X pins σ H s) {k : NestedKey} {b : Addr} (h : KeyAt X.K H k b) : (nestedKind X.prog X.w).is s.heap k b := by
  obtain ⟨h1, t, h2, h3⟩ := h
  exact ⟨nested_of I h3 rfl h2, h1⟩
theorem RepK.keys {ds : List (NestedKey × D)} {xs : List (NestedKey × Addr × Value)} (h : RepK K H ds xs) : ∀ p ∈ xs, KeyAt K H p.1 p.2.1 := by
  induction h with
  | nil => intro p hp; cases hp
  | cons e z t r q _ ih =>
    intro p hp
    rcases List.mem_cons.mp hp with rfl | hp
    · exact ⟨z, _, e, t⟩
    · exact ih p hp
def valT (kvs : List (NestedKey × D)) (k : NestedKey) : Option D := (kvs.find? fun kv => decide (kv.1 = k)).map (·.2)
def putT (kvs : List (NestedKey × D)) (k : NestedKey) (v : D) : List (NestedKey × D) := if (valT kvs k).isSome = true then kvs.map (fun kv => if kv.1 = k then (kv.1, v) else kv) else kvs ++ [(k, v)]
theorem RepK.val {ds : List (NestedKey × D)} {xs : List (NestedKey × Addr × Value)} (h : RepK K H ds xs) (k : NestedKey) : (∀ d, valT ds k = some d → ∃ b u v, atKey xs k = some (b, u) ∧ Rep K H d v ∧ RelV v u) ∧ (valT ds k = none → atKey xs k = none) := by
  unfold valT atKey
  induction h with
  | nil => exact ⟨fun d e => by simp at e, fun _ => rfl⟩
  | @cons k' t d' b v' u ds xs e z rt r q _ ih =>
    by_cases hk : k' = k
    · subst hk
      simp only [List.find?_cons, decide_true, Option.map_some]
      exact ⟨fun d e => ⟨b, u, v', rfl, by cases e; exact r, q⟩, fun e => nomatch e⟩
    · simp only [List.find?_cons, decide_eq_false hk]
      exact ih
theorem RepK.isSome {ds : List (NestedKey × D)} {xs : List (NestedKey × Addr × Value)} (h : RepK K H ds xs) (k : NestedKey) : (atKey xs k).isSome = (valT ds k).isSome := by
  cases e : valT ds k with
  | none => rw [(h.val k).2 e]; rfl
  | some d => obtain ⟨b, u, v, e1, _⟩ := (h.val k).1 d e; rw [e1]; rfl
theorem RepK.put {ds : List (NestedKey × D)} {xs : List (NestedKey × Addr × Value)} (h : RepK K H ds xs) {k : NestedKey} {t d : D} {b : Addr} {v : V} {u : Value} (e : keyT t = some k) (z : k.depth ≤ 8) (rt : Rep K H t (.ref b)) (r : Rep K H d v) (q : RelV v u) : RepK K H (putT ds k d) (storedH xs k b u) := by
  unfold putT storedH
  rw [h.isSome k]
  split
  · rename_i hc
    clear hc
    induction h with
    | nil => exact .nil
    | @cons k' t' d' b' v' u' ds xs e' z' rt' r' q' _ ih =>
      rw [List.map_cons, List.map_cons]
      unfold putAt
      by_cases hk : k' = k
      · rw [if_pos hk, if_pos hk]; exact .cons e' z' rt' r q ih
      · rw [if_neg hk, if_neg hk]; exact .cons e' z' rt' r' q' ih
  · rename_i hc
    clear hc
    induction h with
    | nil => exact .cons e z rt r q .nil
    | cons e' z' rt' r' q' _ ih => exact .cons e' z' rt' r' q' ih
/-- from the object to the library's word -/
theorem dtk_of (hP : cl.P = X.prog) (hw : cl.w = X.w) (I : Inv X pins σ H s) {a : Addr} {xs : List (NestedKey × Addr × Value)} (h : H a = some (DTO cl a xs)) (hk : ∀ p ∈ xs, KeyAt X.K H p.1 p.2.1) :
    xs.length ≤ sizeLine ∧ (a == sysModules) = false ∧ s.heap.DictOfH (nestedKind X.prog X.w) a xs := by
  obtain ⟨⟨h1, h2, o, es, ep, h3, h4, h5, h6, h7⟩, _, _⟩ := (show ObjOk X.prog X.w H s.heap a (DTO cl a xs) from I.hok a _ h)
  rw [hP, hw] at h6
  exact ⟨h1, h2, o, es, ep, h3, h4, h5, h6, fun p hp => (hk p hp).is I, h7⟩
theorem dtk_ok (hP : cl.P = X.prog) (hw : cl.w = X.w) {H' : Hp} {h' : Heap} {a : Addr} {xs : List (NestedKey × Addr × Value)} (h1 : xs.length ≤ sizeLine) (h2 : (a == sysModules) = false) (h : h'.DictOfH (nestedKind X.prog X.w) a xs) : ObjOk X.prog X.w H' h' a (DTO cl a xs) := by
  obtain ⟨o, es, ep, h3, h4, h5, h6, _, h7⟩ := h
  refine ⟨⟨h1, h2, o, es, ep, h3, h4, h5, by rw [hP, hw]; exact h6, h7⟩, ⟨o, h3⟩, fun ha hb hr hk => ?_⟩
  obtain ⟨g1, g2, o', es', ep', g3, g4⟩ := hr
  exact ⟨g1, g2, o', es', ep', hk _ g3, g4⟩
/-! ### reading, asking -/
def rGetK (cl : ClsT) (K : PySem.W.Frag) : R2 := fun x y H Q => ∃ a xs k b b' u v, x = .ref a ∧ y = .ref b ∧ H a = some (DTO cl a xs) ∧ KeyAt K H k b ∧ (∀ p ∈ xs, KeyAt K H p.1 p.2.1) ∧ atKey xs k = some (b', u) ∧ RelV v u ∧ Q v H
theorem ix_dtk (hP : cl.P = X.prog) (hw : cl.w = X.w) (hu : X.A.units + 10 < cLine) : IxR X (rGetK cl X.K) := by
  intro value slice pins s σ H x y v u Q I rx ry h hs
  obtain ⟨a, xs, k, b, b', u', v', rfl, rfl, h1, h2, h3, h4, h5, q⟩ := h
  cases rx; cases ry
  obtain ⟨_, _, hm⟩ := dtk_of hP hw I h1 h3
  refine PyProof.Rows.tail_any hm.typeIs PySem.F.slot_dict_getitem.lookup (wpAny_getItem_heap (knd := nestedKind X.prog X.w) (by show X.A.units + 1 + 8 < cLine; omega) (h2.is I) hm h4 ?_) hs
  exact ⟨v', H, I.tok _, h5, q⟩
def oGetK : O2 := fun x y C Q => ∃ a kvs k d, x = .ref a ∧ C a = some (.dtk kvs) ∧ (∃ ds, y = .tup ds) ∧ keyT y = some k ∧ k.depth ≤ 8 ∧ valT kvs k = some d ∧ Q d C
theorem lk_getK : Lk2 K cl (rGetK cl K) oGetK := fun H C d e v u Q Qc rd re R ⟨a, kvs, k, z, h1, h2, ⟨ds, h3⟩, h4, h5, h6, q⟩ hq => by
  subst h1; subst h3
  cases rd
  obtain ⟨xs, e1, r1⟩ := R a _ h2
  obtain ⟨b', u', v', e2, r2, r3⟩ := (r1.val k).1 z h6
  cases re with
  | tup sq rr => exact ⟨a, xs, k, _, b', u', v', rfl, rfl, e1, ⟨h5, _, h4, .tup sq rr⟩, r1.keys, e2, r3, hq.now q r2 R⟩
def rInK (cl : ClsT) (K : PySem.W.Frag) (f : Bool → Bool) : R2 := fun y x H Q => ∃ a xs k b, x = .ref a ∧ y = .ref b ∧ H a = some (DTO cl a xs) ∧ KeyAt K H k b ∧ (∀ p ∈ xs, KeyAt K H p.1 p.2.1) ∧ Q (.bl (f (atKey xs k).isSome)) H
theorem op_inK (hP : cl.P = X.prog) (hw : cl.w = X.w) (hu : X.A.units + 10 < cLine) : OpR X (compareOp .In) (rInK cl X.K id) := by
  intro pins s σ H y x v u Q I ry rx h
  obtain ⟨a, xs, k, b, rfl, rfl, h1, h2, h3, q⟩ := h
  cases rx; cases ry
  obtain ⟨_, hd, hm⟩ := dtk_of hP hw I h1 h3
  exact wpAny_in_heap (knd := nestedKind X.prog X.w) (by show X.A.units + 1 + 8 < cLine; omega) (h2.is I) hd hm ⟨.bl _, H, I.tok _, rfl, q⟩
theorem op_notInK (hP : cl.P = X.prog) (hw : cl.w = X.w) (hu : X.A.units + 10 < cLine) : OpR X (compareOp .NotIn) (rInK cl X.K not) := by
  intro pins s σ H y x v u Q I ry rx h
  obtain ⟨a, xs, k, b, rfl, rfl, h1, h2, h3, q⟩ := h
  cases rx; cases ry
  obtain ⟨_, hd, hm⟩ := dtk_of hP hw I h1 h3
  show wpAny _ _ (do return Value.bool (!(← contains (.ref a) (.ref b)))) _ _ s
  exact wpAny_bind (wpAny_contains_heap (knd := nestedKind X.prog X.w) (by show X.A.units + 1 + 8 < cLine; omega) (h2.is I) hd hm (wpAny_pure ⟨.bl _, H, I.tok _, rfl, q⟩))
def oInK (f : Bool → Bool) : O2 := fun y x C Q => ∃ a kvs k, x = .ref a ∧ C a = some (.dtk kvs) ∧ (∃ ds, y = .tup ds) ∧ keyT y = some k ∧ k.depth ≤ 8 ∧ Q (.bl (f (valT kvs k).isSome)) C
theorem lk_inK (f : Bool → Bool) : Lk2 K cl (rInK cl K f) (oInK f) := fun H C d e v u Q Qc rd re R ⟨a, kvs, k, h1, h2, ⟨ds, h3⟩, h4, h5, q⟩ hq => by
  subst h1; subst h3
  cases re
  obtain ⟨xs, e1, r1⟩ := R a _ h2
  cases rd with
  | tup sq rr => exact ⟨a, xs, k, _, rfl, rfl, e1, ⟨h5, _, h4, .tup sq rr⟩, r1.keys, hq.now (by rw [r1.isSome]; exact q) (.bl _) R⟩
/-! ### writing -/
def rSetK (cl : ClsT) (K : PySem.W.Frag) : TSet := fun x y z H Q => ∃ a xs k b, x = .ref a ∧ y = .ref b ∧ H a = some (DTO cl a xs) ∧ KeyAt K H k b ∧ (∀ p ∈ xs, KeyAt K H p.1 p.2.1) ∧ xs.length < sizeLine ∧ ∀ u, RelV z u → Q (upd H a (DTO cl a (storedH xs k b u)))
theorem storedH_len (xs : List (NestedKey × Addr × Value)) (k : NestedKey) (b : Addr) (u : Value) : (storedH xs k b u).length ≤ xs.length + 1 := by
  unfold storedH
  split
  · rw [List.length_map]; omega
  · rw [List.length_append]; simp
theorem set_dtk (hP : cl.P = X.prog) (hw : cl.w = X.w) (hu : X.A.units + 10 < cLine) : PSet X (rSetK cl X.K) := by
  intro pins s σ H o i v ov iv u Q I ro ri rv h
  obtain ⟨a, xs, k, b, rfl, rfl, h1, h2, h3, h4, q⟩ := h
  cases ro; cases ri
  obtain ⟨hl, hd, hm⟩ := dtk_of hP hw I h1 h3
  refine wpAny_setItem_heap (knd := nestedKind X.prog X.w) (hsz := hl) (by show X.A.units + 1 + 8 < cLine; omega) (h2.is I) hm fun h' hm' hs => ⟨_, ?_, q u rv⟩
  have he : ∃ ob, h'.get? a = some ob := let ⟨ob, _, _, hq, _⟩ := hm'; ⟨ob, hq⟩
  exact d_write I (by rw [h1]; exact True.intro) hs he (dtk_ok hP hw (by have := storedH_len xs k b u; omega) hd hm')
def oSetK : O3 := fun x y z C Q => ∃ p kvs k, x = .ref p ∧ C p = some (.dtk kvs) ∧ (∃ ds, y = .tup ds) ∧ keyT y = some k ∧ k.depth ≤ 8 ∧ kvs.length < sizeLine ∧ Q (cup C p (.dtk (putT kvs k z)))
theorem lk_setK : LkSet K cl (rSetK cl K) oSetK := fun H C d e z v u w Q Qc rd re rz R ⟨p, kvs, k, h1, h2, ⟨ds, h3⟩, h4, h5, h6, q⟩ hq => by
  subst h1; subst h3
  cases rd
  obtain ⟨xs, e1, r1⟩ := R p _ h2
  cases re with
  | tup sq rr =>
    refine ⟨p, xs, k, _, rfl, rfl, e1, ⟨h5, _, h4, .tup sq rr⟩, r1.keys, by rw [← r1.length]; exact h6, fun u' ru => ?_⟩
    refine hq _ _ q (R.write h2 e1 (fun xs h => by rcases h with h | ⟨z, h⟩ <;> (rw [e1] at h; cases h)) ⟨_, upd_same, ?_⟩) (Keep.write h2 _ _)
    exact (r1.put h4 h5 (.tup sq rr) rz ru).keep R (Keep.write h2 _ (.dtk (putT kvs k z)))
/-! ### displays: {}, {k: v} -/
theorem dtk_fresh (hP : cl.P = X.prog) (hw : cl.w = X.w) {H : Hp} (h : Heap) (hb : sysModules < h.objs.size) : ObjOk X.prog X.w H (h.push { cls := .type "dict", data := .dict #[] }) h.objs.size (DTO cl h.objs.size []) :=
  dtk_ok hP hw (Nat.zero_le _) (beq_eq_false_iff_ne.mpr (Ne.symm (Nat.ne_of_lt hb))) (Heap.DictOfH.new h)
def cDtk0 : CTE := fun _ C Q => ∀ p, C p = none → Q (.ref p) (cup C p (.dtk []))
theorem cpe_dtk0 (hP : cl.P = X.prog) (hw : cl.w = X.w) {pos : Pos} : CPE X cl H0 C0 (.Dict [] [] pos) cDtk0 := ⟨fun pins s σ H Q I ⟨σc, C, Qc, S, h, hq⟩ => by
  have hn := I.hok.fresh (Nat.le_refl s.heap.objs.size)
  refine wpAny_Dict_empty ⟨.ref s.heap.objs.size, _, I.laid (t' := s.toks) (fun _ _ q => Heap.get?_push_of_some _ q) (Nat.le_refl _) (dtk_fresh (cl := cl) hP hw s.heap I.big), rfl, ?_⟩
  exact hq _ _ _ _ (h _ (free_of S.r hn)) (.ref _) (S.r.new hn _ _ ⟨[], upd_same, .nil⟩) (Keep.new hn S.r _ _)⟩
def cDtk1 (a b : CTE) : CTE := fun σ C Q => a σ C fun x C1 => b σ C1 fun y C2 => ∃ k, (∃ ds, x = .tup ds) ∧ keyT x = some k ∧ k.depth ≤ 8 ∧ ∀ p, C2 p = none → Q (.ref p) (cup C2 p (.dtk [(k, y)]))
theorem cpe_dtk1 (hP : cl.P = X.prog) (hw : cl.w = X.w) (hu : X.A.units + 10 < cLine) {a b : Expr} {ca cb : CTE} {pos : Pos} (ha : CPE X cl H0 C0 a ca) (hb : CPE X cl H0 C0 b cb) : CPE X cl H0 C0 (.Dict [some a] [b] pos) (cDtk1 ca cb) := ⟨fun pins s σ H Q I ⟨σc, C, Qc, S, h, hq⟩ => by
  have hn := I.hok.fresh (Nat.le_refl s.heap.objs.size)
  have hC : C s.heap.objs.size = none := free_of S.r hn
  have I1 := I.laid (a := s.heap.objs.size) (o := DTO cl s.heap.objs.size []) (h' := s.heap.push { cls := .type "dict", data := .dict #[] }) (t' := s.toks) (fun _ _ q => Heap.get?_push_of_some _ q) (Nat.le_refl _) (dtk_fresh (cl := cl) hP hw s.heap I.big)
  have R1 := S.r.newH hn (DTO cl s.heap.objs.size [])
  have k1 := keep_newH hn (DTO cl s.heap.objs.size []) S.r
  have hdd := dictDisplay_pairs (pairTrees [some a] [b] X.env pos) (by simp [pairTrees]) (by simp [pairTrees])
  rw [arm_eval_Dict, zip_pairTrees [some a] [b] X.env pos rfl rfl, hdd]
  refine wpAny_bind (wpAny_standAt (wpAny_bind (wpAny_subDictH (knd := nestedKind X.prog X.w) (Q := fun d s' => wpAny (model X.prog X.w) X.A (pure (Value.ref d)) (EP X pins σ Q) X.xe s') (by show X.A.units + 8 < cLine; omega) (by simp [pairTrees]) ?_)))
  let H' := upd H s.heap.objs.size (DTO cl s.heap.objs.size [])
  refine pairTrees_cons_walk (thn (ha.run pins _ σ _ (fun xv H1 => ∃ x C1, Rep X.K H1 x xv ∧ Rel X.K cl H1 C1 ∧ Keep H' C H1 C1 ∧ cb σc C1 fun y C2 => ∃ k, (∃ ds, x = .tup ds) ∧ keyT x = some k ∧ k.depth ≤ 8 ∧ ∀ p, C2 p = none → Qc (.ref p) (cup C2 p (.dtk [(k, y)]))) I1
    ⟨σc, C, _, S.step k1 R1, h, fun x C1 xv H1 h1 rx R2 k2 => ⟨x, C1, rx, R2, k2, h1⟩⟩) fun u s1 ⟨xv, H1, I2, r1, x, C1, rx, R2, k2, h1⟩ =>
    thn (hb.run pins s1 σ H1 (fun yv H2 => ∃ y C2, Rep X.K H2 y yv ∧ Rel X.K cl H2 C2 ∧ Keep H1 C1 H2 C2 ∧ ∃ k, (∃ ds, x = .tup ds) ∧ keyT x = some k ∧ k.depth ≤ 8 ∧ ∀ p, C2 p = none → Qc (.ref p) (cup C2 p (.dtk [(k, y)]))) I2
    ⟨σc, C1, _, (S.step k1 R1).step k2 R2, h1, fun y C2 yv H2 h2 ry R3 k3 => ⟨y, C2, ry, R3, k3, h2⟩⟩) fun u2 s2 ⟨yv, H2, I3, r2, y, C2, ry, R3, k3, h2⟩ => pairTrees_nil_walk ?_)
  · obtain ⟨k, ⟨ds, e1⟩, e2, e3, e4⟩ := h2
    subst e1
    have kk := k2.trans k3
    obtain ⟨hp3, hC3⟩ := kk _ _ upd_same hC
    have rx3 := rx.keep R2 k3
    cases rx3 with
    | @tup ka _ _ sq rr =>
      cases r1
      obtain ⟨_, hd, hm⟩ := dtk_of hP hw I3 hp3 (fun p hp => nomatch hp)
      have kat : KeyAt X.K H2 k ka := ⟨e3, _, e2, .tup sq rr⟩
      refine ⟨[(k, ka, u2)], ⟨rfl, rfl, kat.is I3, trivial⟩, hm, fun h' tk hm' hs => wpAny_pure ?_⟩
      have he : ∃ ob, h'.get? s.heap.objs.size = some ob := let ⟨ob, _, _, hq, _⟩ := hm'; ⟨ob, hq⟩
      refine ⟨.ref s.heap.objs.size, _, d_write (t' := tk) I3 (by rw [hp3]; exact True.intro) hs he (dtk_ok hP hw (xs := [(k, ka, u2)]) (by simp only [List.length_cons, List.length_nil]; decide) hd hm'), rfl, ?_⟩
      -- the clean heap: the dict is new
      have R4 : Rel X.K cl H2 (cup C2 s.heap.objs.size (.dtk [])) := fun b o hb => by
        by_cases hbp : b = s.heap.objs.size
        · subst hbp; rw [cup_same] at hb; cases hb; exact ⟨[], hp3, .nil⟩
        · rw [cup_ne hbp] at hb; exact R3 b o hb
      have dr : RepK X.K H2 [(k, y)] [(k, ka, u2)] := .cons e2 e3 (.tup sq rr) ry r2 .nil
      have kw : Keep H2 (cup C2 s.heap.objs.size (.dtk [])) (upd H2 s.heap.objs.size (DTO cl s.heap.objs.size [(k, ka, u2)])) (cup (cup C2 s.heap.objs.size (.dtk [])) s.heap.objs.size (.dtk [(k, y)])) := Keep.write cup_same _ _
      have R5 := R4.write (u' := .dtk [(k, y)]) (o' := DTO cl s.heap.objs.size [(k, ka, u2)]) cup_same hp3 (fun xs h => by rcases h with h | ⟨z, h⟩ <;> (rw [hp3] at h; cases h)) ⟨_, upd_same, dr.keep R4 kw⟩
      rw [cup_cup] at R5
      refine hq _ _ _ _ (e4 _ hC3) (.ref _) R5 fun b o hb hn => ?_
      obtain ⟨z1, z2⟩ := (k1.trans kk) b o hb hn
      have nb : b ≠ s.heap.objs.size := ne_of_none hb (I.hok.fresh (Nat.le_refl s.heap.objs.size))
      exact ⟨by rw [upd_ne nb]; exact z1, by rw [cup_ne nb]; exact z2⟩⟩
end
end L3

namespace L3
open PySem L2 PySem.Spec PyProof.Rows
/-! ### xs[::-1] of tuples and lists -/
theorem back_adjust (n : Nat) : Builtin.Slice.sliceAdjust none none (-1) (n : Int) = ((n : Int) - 1, -1) := rfl
theorem back_places (n : Nat) : Builtin.Slice.slicePlaces ((n : Int) - 1) (-1) (-1) = n := by
  unfold Builtin.Slice.slicePlaces
  rw [if_neg (by decide)]
  by_cases h : n = 0
  · subst h; rfl
  · rw [if_pos (by omega)]
    have e : ((n : Int) - 1 - -1 - 1) / - -1 = (n : Int) - 1 := by
      rw [show (- -1 : Int) = 1 by decide, Int.ediv_one]; omega
    rw [e]
    omega
theorem back_pick (xs : Array Value) : ((List.range xs.size).filterMap fun (m : Nat) => xs[((xs.size : Int) - 1 + (m : Int) * -1).toNat]?).toArray = xs.toList.reverse.toArray := by
  congr 1
  apply List.ext_getElem?
  intro i
  have e : ∀ m, m < xs.size → xs[((xs.size : Int) - 1 + (m : Int) * -1).toNat]? = some (xs.toList.reverse[m]?.getD .none) := by
    intro m hm
    have h1 : ((xs.size : Int) - 1 + (m : Int) * -1).toNat = xs.size - 1 - m := by omega
    rw [h1, List.getElem?_reverse (by simpa using hm)]
    simp only [Array.length_toList, Array.getElem?_toList]
    rw [Array.getElem?_eq_getElem (by omega)]
    rfl
  have e2 : (List.range xs.size).filterMap (fun (m : Nat) => xs[((xs.size : Int) - 1 + (m : Int) * -1).toNat]?) = (List.range xs.size).map (fun m => xs.toList.reverse[m]?.getD .none) := by
    have go : ∀ (l : List Nat), (∀ m ∈ l, m < xs.size) → l.filterMap (fun (m : Nat) => xs[((xs.size : Int) - 1 + (m : Int) * -1).toNat]?) = l.map (fun m => xs.toList.reverse[m]?.getD .none) := by
      intro l
      induction l with
      | nil => intro _; rfl
      | cons m l ih =>
        intro h
        rw [List.filterMap_cons, e m (h m List.mem_cons_self), List.map_cons, ih fun m' hm => h m' (List.mem_cons_of_mem _ hm)]
    exact go _ fun m hm => List.mem_range.mp hm
  rw [e2, List.getElem?_map]
  by_cases hi : i < xs.size
  · rw [List.getElem?_range hi]
    show some (xs.toList.reverse[i]?.getD .none) = _
    rw [List.getElem?_eq_getElem (by simpa using hi)]
    rfl
  · rw [List.getElem?_eq_none (by simpa using hi), List.getElem?_eq_none (by simpa using hi)]
    rfl
section
variable {prog : Program} {w : World} {A : Around} {E : Value → Shared → Prop} {s : Shared}
theorem getItem_tuple_back {t sl : Addr} {items : Array Value} {k : Tok} {Q : Value → Shared → Prop} (ht : IsTup s.heap t items) (hs : s.heap.IsSliceOf sl .none .none (.int (-1) k))
    (h : Q (.ref s.heap.objs.size) { s with heap := s.heap.push { cls := .type "tuple", data := .seq items.toList.reverse.toArray } }) (hsz : items.size ≤ sizeLine) : wpAny (model prog w) A (getItem (.ref t) (.ref sl)) Q E s := by
  have ok : sizeOk (.seq items.toList.reverse.toArray) := by
    show items.toList.reverse.toArray.size ≤ sizeLine
    rw [List.size_toArray, List.length_reverse, Array.length_toList]
    exact hsz
  obtain ⟨os, hos, hcs, hds⟩ := id hs
  have tyS : s.TypeIs (.ref sl) "slice" := ⟨os, hos, hcs⟩
  unfold getItem
  try with_reducible refine wpAny_holding ?_
  first | refine wpAny_bind (wpAny_pure ?_) | skip
  refine wpAny_bind (wpAny_sequenceKey ht.typeIs (by decide) (wpAny_bind (wpAny_callSpecial?_slot (name := Str.ofString "__getitem__") ht.typeIs PyProof.Rows.slot_tuple_getitem (wpAny_call_entry PyProof.Rows.slot_tuple_getitem ht.typeIs entry_tuple_getitem ?_ (args_tuple_getitem _ _)))))
  show wpAny _ _ (Builtin.Tuple.tupleItemsOf (.ref t) >>= _) _ _ s
  refine wpAny_bind (tupleItemsOf_ ht (wpAny_bind (wpAny_typeOf tyS ?_)))
  rw [if_pos (by decide)]
  have app : ∀ {B : Around} {Q' : Int × Int × Nat → Shared → Prop}, Q' ((items.size : Int) - 1, -1, items.size) s → wpAny (model prog w) B (Builtin.Slice.sliceApplied (.ref sl) (pure (items.size : Int))) Q' E s := by
    intro B Q' q
    unfold Builtin.Slice.sliceApplied Builtin.Slice.sliceFields
    refine wpAny_bind (wpAny_bind (wpAny_field hos hds (x := .none) rfl (wpAny_bind (wpAny_field hos hds (x := .none) rfl (wpAny_bind (wpAny_field hos hds (x := .int (-1) k) rfl (wpAny_pure ?_)))))))
    refine wpAny_bind (HT.slicePart_ (.int (-1) k) ?_)
    show wpAny _ _ (if ((-1 : Int) == 0) = true then _ else _) _ _ s
    rw [if_neg (by decide)]
    refine wpAny_bind (HT.slicePart_ .none (wpAny_bind (HT.slicePart_ .none (wpAny_bind (wpAny_pure ?_)))))
    show wpAny _ _ (match Builtin.Slice.sliceAdjust none none (-1) (items.size : Int) with | (lo, hi) => pure (lo, (-1 : Int), Builtin.Slice.slicePlaces lo hi (-1))) _ _ s
    rw [back_adjust]
    show wpAny _ _ (pure ((items.size : Int) - 1, (-1 : Int), Builtin.Slice.slicePlaces ((items.size : Int) - 1) (-1) (-1))) _ _ s
    rw [back_places]
    exact wpAny_pure q
  refine wpAny_bind (app ?_)
  have hno : ¬ (((items.size : Int) - 1 == 0 && (-1 : Int) == 1 && items.size == items.size) = true) := by simp
  show wpAny _ _ (if ((items.size : Int) - 1 == 0 && (-1 : Int) == 1 && items.size == items.size) = true then _ else _) _ _ s
  rw [if_neg hno, back_pick]
  first
    | exact wpAny_bind (m := Builtin.Tuple.tupleExact _) (wpAny_newObj_type (wpAny_pure ⟨_, rfl, wpAny_pure h⟩) ok)
    | exact wpAny_bind (m := Builtin.Tuple.tupleExact _) (wpAny_newObj_type (wpAny_bind (wpAny_pure (wpAny_pure ⟨_, rfl, wpAny_pure h⟩))) ok)
    | exact wpAny_bind (wpAny_bind (m := Builtin.Tuple.tupleExact _) (wpAny_newObj_type (wpAny_pure (wpAny_pure ⟨_, rfl, wpAny_pure h⟩)) ok))
    | exact wpAny_bind (wpAny_bind (m := Builtin.Tuple.tupleExact _) (wpAny_newObj_type (wpAny_pure ⟨_, rfl, wpAny_pure h⟩) ok))
end
section
variable {X : Cx} {cl : ClsT} {H0 : Hp} {C0 : CH} {e : Expr} {ca : CTE}
def tRevA (K : PySem.W.Frag) (te : TE) : TE := fun σ H Q => te σ H fun x H1 => ∃ a xs, x = .ref a ∧ ((SqL K H1 a xs ∧ ∀ p, H1 p = none → Q (.ref p) (upd H1 p (.lst xs.reverse))) ∨ (SqT K H1 a xs ∧ ∀ p, H1 p = none → Q (.ref p) (upd H1 p (.tup xs.reverse))))
theorem pe_revA {te : TE} {k : Nat} {p1 p2 p3 pos : Pos} (he : PE X e te) : PE X (.Subscript e (.Slice none none (some (.UnaryOp .USub (.Constant (.int 1) k p1) p2)) p3) pos) (tRevA X.K te) := ⟨fun pins s σ H Q I h => by
  refine Subscript_ (thn (he.run pins s σ H _ I h) fun v s1 ⟨x, H1, I1, r1, a, xs, ex, q⟩ => ?_)
  subst ex
  cases r1
  have step : PO X (some (.UnaryOp .USub (.Constant (.int 1) k p1) p2)) (tPart (tUn (rU fun i => .int (-i)) (tC (.int 1)))) := po_some (pe_un un_neg pe_int)
  refine wpAny_Slice (thn (po_none.run pins s1 σ H1 (fun o H2 => o = none ∧ H2 = H1) I1 ⟨rfl, rfl⟩) fun vl s2 ⟨l, H2, I2, pl, el, e2⟩ => ?_)
  subst el e2
  refine thn (po_none.run pins s2 σ H2 (fun o H3 => o = none ∧ H3 = H2) I2 ⟨rfl, rfl⟩) fun vu s3 ⟨u, H3, I3, pu, eu, e3⟩ => ?_
  subst eu e3
  refine thn (step.run pins s3 σ H3 (fun o H4 => o = some (-1) ∧ H4 = H3) I3 ⟨1, rfl, -1, rfl, rfl, rfl⟩) fun vs s4 ⟨o, H4, I4, ps, eo, e4⟩ => ?_
  subst eo e4
  cases pl
  cases pu
  cases ps with
  | int _ t =>
  have I5 : Inv X pins σ H4 { s4 with heap := s4.heap.push { cls := .type "slice", data := .fields #[.none, .none, .int (-1) t] } } := I4.kept (t' := s4.toks) fun b ob q => Heap.get?_push_of_some _ q
  show wpAny (model X.prog X.w) X.A (subscriptTail e (.Slice none none (some (.UnaryOp .USub (.Constant (.int 1) k p1) p2)) p3) (.ref a) (.ref s4.heap.objs.size)) (EP X pins σ Q) X.xe { s4 with heap := s4.heap.push { cls := .type "slice", data := .fields #[.none, .none, .int (-1) t] } }
  rcases q with ⟨hx, q⟩ | ⟨hx, q⟩
  · obtain ⟨its, r, pl, hz⟩ := I5.list hx
    refine tail_any (ops := [.ref a, .ref s4.heap.objs.size]) pl.isList.typeIs (PySem.slot_list_getitem.lookup) ?_ (by with_unfolding_all rfl)
    refine wpAny_getItem_list_slice pl.isList (Heap.IsSliceOf.new _ .none .none (.int (-1) t)) .none .none (.int (-1) t) (by decide) ?_ (by rw [List.size_toArray, ← r.length]; exact hz)
    rw [PySem.W.krv_pick]
    refine ⟨.ref _, _, I5.laid (t' := s4.toks) (o := .lst xs.reverse) (fun b ob q => Heap.get?_push_of_some _ q) (Nat.le_refl _) ?_, rfl, q _ (I5.hok.fresh (Nat.le_refl _))⟩
    exact ⟨by rw [List.length_reverse]; exact hz, _, 0, r.reverse, Heap.get?_push_size _ rfl⟩
  · obtain ⟨its, r, pt, hz⟩ := I5.tuple hx
    refine tail_any (ops := [.ref a, .ref s4.heap.objs.size]) pt.typeIs PyProof.Rows.slot_tuple_getitem.lookup ?_ (by with_unfolding_all rfl)
    refine getItem_tuple_back pt (Heap.IsSliceOf.new _ .none .none (.int (-1) t)) ?_ (by rw [List.size_toArray, ← r.length]; exact hz)
    refine ⟨.ref _, _, I5.laid (t' := s4.toks) (o := .tup xs.reverse) (fun b ob q => Heap.get?_push_of_some _ q) (Nat.le_refl _) ?_, rfl, q _ (I5.hok.fresh (Nat.le_refl _))⟩
    exact ⟨by rw [List.length_reverse]; exact hz, its.reverse, r.reverse, _, Heap.get?_push_size _ rfl, rfl, _, rfl⟩⟩
/-- xs[::-1] -/
def cRev (a : CTE) : CTE := fun σ C Q => a σ C fun d C1 => match d with
  | .tup ds => Q (.tup ds.reverse) C1
  | .ref p => ∃ ds, LsC C1 p ds ∧ ∀ l, C1 l = none → Q (.ref l) (cup C1 l (.lst ds.reverse))
  | _ => False
theorem cpe_rev {k : Nat} {p1 p2 p3 pos : Pos} (ha : CPE X cl H0 C0 e ca) : CPE X cl H0 C0 (.Subscript e (.Slice none none (some (.UnaryOp .USub (.Constant (.int 1) k p1) p2)) p3) pos) (cRev ca) :=
  (pe_revA ha).imp fun σ H Q ⟨σc, C, Qc, S, h, hq⟩ => ⟨σc, C, _, S, h, fun d C1 v H1 h1 rv R1 k1 => by
    have hq1 := hq.from_ k1
    cases d with
    | tup ds =>
      cases rv with
      | tup sq rr => exact ⟨_, _, rfl, .inr ⟨sq, fun p hp => hq1.tup h1 rr.reverse R1 hp⟩⟩
    | ref p =>
      cases rv
      obtain ⟨ds, hl, q⟩ := h1
      obtain ⟨vs, sq, rr⟩ := R1.ls hl
      exact ⟨p, vs, rfl, .inl ⟨sq, fun p' hp => hq1.lst rr.reverse R1 hp (q p' (free_of R1 hp))⟩⟩
    | _ => exact h1.elim⟩
/-- d[k] of a dict with tuple keys -/
theorem cpe_ixK {a b : Expr} {ca cb : CTE} {pos : Pos} (hP : cl.P = X.prog) (hw : cl.w = X.w) (hu : X.A.units + 10 < cLine) (ha : CPE X cl H0 C0 a ca) (hb : CPE X cl H0 C0 b cb) (hs : notSlice b = true) : CPE X cl H0 C0 (.Subscript a b pos) (cBin oGetK ca cb) :=
  (pe_ix (ix_dtk hP hw hu) ha hb (plainIx_of hs)).imp (tOp_of (ta := tE X.K cl H0 C0 ca) (tb := tE X.K cl H0 C0 cb) lk_getK)
theorem cpe_nev : CPE X cl H0 C0 e fun _ _ _ => False := ⟨fun _ _ _ _ _ _ ⟨_, _, _, _, h, _⟩ => h.elim⟩
/-! ### repr of data -/
theorem Dp.noDict {K : PySem.W.Frag} {H : Hp} : True := trivial
mutual
theorem snap_noDict {C : CH} : ∀ {d : D} {p : PyData}, Snap C d p → p.hasDict = false
  | _, _, .non => rfl
  | _, _, .bl _ => rfl
  | _, _, .int _ => rfl
  | _, _, .str _ => rfl
  | _, _, .tup t => by simp only [PyData.hasDict]; exact snaps_noDict t
  | _, _, .rls t => by simp only [PyData.hasDict]; exact snaps_noDict t
  | _, _, .lst _ t => by simp only [PyData.hasDict]; exact snaps_noDict t
theorem snaps_noDict {C : CH} : ∀ {d : List D} {p : List PyData}, SnapL C d p → PyData.hasDictAll p = false
  | _, _, .nil => rfl
  | _, _, .cons a b => by simp only [PyData.hasDictAll, snap_noDict a, snaps_noDict b]; rfl
end
def rRepr (K : PySem.W.Frag) : List V → Hp → VK → Prop := fun xs H Q => ∃ x p, xs = [x] ∧ Dp K H x p ∧ p.hasDict = false ∧ p.showable = true ∧ p.shown.length ≤ sizeLine ∧ p.depth ≤ 350 ∧ Q (.str p.shown) H
theorem call_reprA (hg : X.A.guards = some []) (hu : X.A.units + 352 < cLine) : CallR X (.builtin "repr") (rRepr X.K) := by
  intro pins s σ H xs us Q I r h
  obtain ⟨x, p, rfl, hd, hn, hs, hl, hp, q⟩ := h
  cases r with
  | cons r0 t =>
  cases t
  cases hd with
  | non =>
    cases r0
    simp only [PyData.shown] at q
    exact PySem.P.repr_of_none ⟨.str _, H, I.tok _, ⟨_, rfl⟩, q⟩
  | bl b =>
    cases r0
    simp only [PyData.shown] at q
    exact PySem.P.repr_of_bool ⟨.str _, H, I.tok _, ⟨_, rfl⟩, q⟩
  | int i =>
    obtain ⟨t, rfl⟩ := r0
    simp only [PyData.shown] at q
    exact PySem.P.repr_of_int (by simpa [PyData.showable] using hs) ⟨.str _, H, I.tok _, ⟨_, rfl⟩, q⟩
  | str z =>
    obtain ⟨t, rfl⟩ := r0
    simp only [PyData.shown] at q hl
    exact PySem.P.repr_of_str ⟨.str _, H, I.tok _, ⟨_, rfl⟩, q⟩ hl
  | lst sq t =>
    cases r0
    obtain ⟨as, rd⟩ := Dp.reads I _ _ _ (.lst sq t) rfl
    exact repr_of_reads' rd hs (fun z => by rw [hn] at z; cases z) hg (by omega) (fun _ _ e => e) (fun h' u tk hk => ⟨.str _, H, I.kept hk, ⟨_, rfl⟩, q⟩) hl
  | tup sq t =>
    cases r0
    obtain ⟨as, rd⟩ := Dp.reads I _ _ _ (.tup sq t) rfl
    exact repr_of_reads' rd hs (fun z => by rw [hn] at z; cases z) hg (by omega) (fun _ _ e => e) (fun h' u tk hk => ⟨.str _, H, I.kept hk, ⟨_, rfl⟩, q⟩) hl
def oRepr : OL := fun xs C Q => ∃ x p, xs = [x] ∧ Snap C x p ∧ p.showable = true ∧ p.shown.length ≤ sizeLine ∧ p.depth ≤ 350 ∧ Q (.str p.shown) C
theorem lk_repr {K : PySem.W.Frag} : LkL K cl (rRepr K) oRepr := fun H C ds vs Q Qc rs R ⟨x, p, h1, h2, h3, h4, h5, q⟩ hq => by
  subst h1
  obtain ⟨v, rfl, r⟩ := rs.one
  exact ⟨v, p, rfl, h2.dp R r, snap_noDict h2, h3, h4, h5, hq.now q (.str _) R⟩
end
end L3

/-! == and != by an own __eq__ -/
namespace L3N
open PySem PySem.Spec PyProof.Rows PySem.SeqAt
section
variable {M : Model} {prog : Program} {w : World} {A : Around} {E : Value → Shared → Prop} {s : Shared} {K : PySem.W.Frag} {x C f : Addr} {ox : Obj} {od : Option Obj} {b : Value}
theorem entry_neO {Q : Fin → Shared → Prop} (hu : A.units < cLine) (X : K.In s.heap) (I : PySem.W.InstAt s.heap x ox C od) (hs : PySem.W.findIn K (.ref C) "__eq__" = some (some (.ref f))) (hf : PySem.W.isFn K (.ref f) = true)
    (h : wpAny (model prog w) A (call (.ref f) [.ref x, b]) (fun v s' => ∃ t, v = .bool t ∧ Q (.done (.ret (.bool (!t)))) s') E s) : wpAny (model prog w) A (Builtin.«object.__ne__» ⟨[.ref x, b], []⟩) Q E s := by
  unfold Builtin.«object.__ne__»
  repeat (first
    | with_reducible refine wpAny_cRoomFor hu ?_
    | (refine wpAny_bind (m := callSpecialIfBound? (.ref x) (Str.ofString "__eq__") [b])
        (PySem.W.ifBound_K X I hs hf (wpAny_mono h (fun r s' hr => by
          obtain ⟨t, rfl, hq⟩ := hr
          repeat (first | exact hq | exact wpAny_pure hq | exact wpAny_truthy_bool hq | (refine wpAny_bind (m := truthy (.bool _)) (wpAny_truthy_bool ?_)) | wp_step)) fun _ _ e => e)))
    | wp_step)
theorem call_neO {Q : Value → Shared → Prop} (hu : A.units + 1 < cLine) (X : K.In s.heap) (I : PySem.W.InstAt s.heap x ox C od) (hm : PySem.W.mroIn K C (.type "object") = some true) (hs : PySem.W.findIn K (.ref C) "__eq__" = some (some (.ref f))) (hf : PySem.W.isFn K (.ref f) = true)
    (h : wpAny (model prog w) A.in1 (call (.ref f) [.ref x, b]) (fun v s' => ∃ t, v = .bool t ∧ Q (.bool (!t)) s') E s) : wpAny (model prog w) A (call (.builtin "object.__ne__") [.ref x, b]) Q E s :=
  wpAny_call (codeAny_call_builtin F.cmp_object.ne.plain F.cmpEntry_ne (PySem.W.check_slot F.cmpKind_ne F.cmpSplit_ne (I.type.andThen (PySem.W.looks_mroIn X hm)) (F.cmpArgs_ne _ _) (entry_neO (A := A.in1) hu X I hs hf (wpAny_mono h (fun v s' hv => hv) fun _ _ e => e))))
theorem ifBound_objNe {args : List Value} {Q : Option Value → Shared → Prop} (X : K.In s.heap) (I : PySem.W.InstAt s.heap x ox C od) (hs : PySem.W.findIn K (.ref C) "__ne__" = some (some (.builtin "object.__ne__")))
    (h : wpAny M A (call (.builtin "object.__ne__") (.ref x :: args)) (fun v => Q (some v)) E s) : wpAny M A (callSpecialIfBound? (.ref x) "__ne__" args) Q E s := by
  simp only [callSpecialIfBound?, bindSpecialIfBound?]
  refine wpAny_holding (wpAny_bind (wpAny_bind (wpAny_bind (I.type.here ((PySem.W.looks_findIn X hs).here ?_)))))
  refine wpAny_bind (wpAny_askSetting (wpAny_ite ?_))
  have fin : wpAny M A (call (.builtin "object.__ne__") ([.ref x] ++ args) >>= fun v => pure (some v)) Q E s := wpAny_bind (wpAny_mono h (fun v s' h' => wpAny_pure h') fun _ _ h' => h')
  split
  · exact wpAny_bind (wpAny_of_eq (F.cmp_object.ne.bind _) (wpAny_pure (by exact fin)))
  · exact wpAny_tryCatch (wpAny_bind (wpAny_of_eq (F.cmp_object.ne.bind _) (wpAny_pure (by exact fin))))
/-- x != y, both of one class with an __eq__ of its own -/
theorem rc_neO {Q : Value → Shared → Prop} (hu : A.units + 1 < cLine) (X : K.In s.heap) (I : PySem.W.InstAt s.heap x ox C od) (hb : PySem.W.Looks (model prog w) s.heap (typeOf b) (.ref C)) (hm : PySem.W.mroIn K C (.type "object") = some true)
    (hn : PySem.W.findIn K (.ref C) "__ne__" = some (some (.builtin "object.__ne__"))) (hs : PySem.W.findIn K (.ref C) "__eq__" = some (some (.ref f))) (hf : PySem.W.isFn K (.ref f) = true)
    (h : wpAny (model prog w) A.in1 (call (.ref f) [.ref x, b]) (fun v s' => ∃ t, v = .bool t ∧ Q (.bool (!t)) s') E s) : wpAny (model prog w) A (richCompare .NotEq (.ref x) b) Q E s := by
  have one : wpAny (model prog w) A (tryCompare (.ref x) "__ne__" b) (fun r s' => ∃ t, r = some (.bool t) ∧ Q (.bool t) s') E s := by
    unfold tryCompare
    refine wpAny_bind (ifBound_objNe X I hn (call_neO hu X I hm hs hf (wpAny_mono h (fun v s' hv => ?_) fun _ _ e => e)))
    obtain ⟨t, rfl, hq⟩ := hv
    exact ⟨t, rfl, wpAny_pure ⟨_, rfl, hq⟩⟩
  unfold richCompare
  simp only [oneThing_ref]
  refine wpAny_holding (wpAny_bind (wpAny_cRoomFor (Nat.lt_of_succ_lt hu) ?_))
  rw [cmpInfo_NotEq]
  dsimp only
  refine wpAny_bind (I.type.here (wpAny_bind (hb.here ?_)))
  rw [show (Value.ref C != Value.ref C) = false from by simp]
  simp only [Bool.false_eq_true, if_false]
  refine wpAny_bind (wpAny_pure ?_)
  simp only [Bool.false_eq_true, if_false]
  refine wpAny_bind (wpAny_mono one (fun r s' z => ?_) fun _ _ e => e)
  obtain ⟨t, rfl, hq⟩ := z
  exact wpAny_pure hq
end
end L3N
namespace L3
open PySem L2 PySem.Spec PyProof.Rows
/-- a class with an __eq__ of its own, and no __ne__ -/
structure OwnE (K : PySem.W.Frag) (Ca f : Addr) : Prop where
  eq : PySem.W.findIn K (.ref Ca) "__eq__" = some (some (.ref f))
  fn : PySem.W.isFn K (.ref f) = true
  ne : PySem.W.findIn K (.ref Ca) "__ne__" = some (some (.builtin "object.__ne__"))
  ob : PySem.W.mroIn K Ca (.type "object") = some true
section
variable {X : Cx} {cl : ClsT} {H0 : Hp} {C0 : CH} {Ca fa : Addr} {fd : FuncData} {ps : List Str} {sp : Sp} {k : Nat} {g : List Src} {gV : List V → List V → List V}
def rEqO (Ca : Addr) (sp : Sp) (gV : List V → List V → List V) (f : Bool → Bool) : R2 := fun x y H Q => ∃ a b dx dy fs gs, x = .ref a ∧ y = .ref b ∧ H a = some (.ins Ca dx fs) ∧ H b = some (.ins Ca dy gs) ∧ sp (gV [.ref a, .ref b] []) H (fun v H' => ∃ t, v = .bl t ∧ Q (.bl (f t)) H') fun _ _ _ => False
theorem own_run {A : Around} {pins : List (Addr × Obj)} {s : Shared} {σ : L2.St} {H : Hp} {a b : Addr} {Q : VK} {gv : List Value → List Value → List Value} (F : FnOkG X.prog X.w X.K X.mg X.base (L2.CX X.prog X.w) k fa fd ps sp) (hr : Room k A) (hg : A.guards = some []) (hfr : A.frames = X.A.frames)
    (hb : BindsTo s fd ⟨[.ref a, .ref b], []⟩ (ps.zip (gv [.ref a, .ref b] []))) (hv : Vals (gV [.ref a, .ref b] []) (gv [.ref a, .ref b] [])) (I : Inv X pins σ H s)
    (h : sp (gV [.ref a, .ref b] []) H Q fun _ _ _ => False) : wpAny (model X.prog X.w) A (call (.ref fa) [.ref a, .ref b]) (EP X pins σ Q) X.xe s := by
  have e0 : Env0 X.prog X.w X.K X.mg X.base A X.stack s H := by
    have e := I.env0
    exact ⟨by rw [hfr]; exact e.frames, e.mod, e.bs, e.bsz, e.funs, e.frf, e.hok, e.bare⟩
  refine wpAny_call (codeAny_mono (F.run A X.stack s H ⟨[.ref a, .ref b], []⟩ _ _ Q (fun _ _ _ => False) hr hg e0 hb hv h) fun r s' hq => ?_)
  match r, hq with
  | .error e, hq => obtain ⟨_, _, _, _, _, _, _, _, _, _, _, _, z⟩ := hq; exact z.elim
  | .ok (.ret u), hq => exact I.after hq
theorem op_eqO {gv : List Value → List Value → List Value} (O : OwnE X.K Ca fa) (F : FnOkG X.prog X.w X.K X.mg X.base (L2.CX X.prog X.w) k fa fd ps sp) (hr : Room k X.A) (hg : X.A.guards = some []) (hb : ∀ (s : Shared) (us : List Value), X.K.In s.heap → us.length = 2 → BindsTo s fd ⟨us, []⟩ (ps.zip (gv us [])))
    (hv : ∀ {vs us zs ws}, Vals vs us → Vals zs ws → Vals (gV vs zs) (gv us ws)) : OpR X (compareOp .Eq) (rEqO Ca sp gV id) := by
  intro pins s σ H x y v u Q I rx ry ⟨a, b, dx, dy, fs, gs, ex, ey, ha, hb', hs⟩
  subst ex; subst ey
  cases rx; cases ry
  obtain ⟨mA, J, _⟩ := ins_get I.hok ha
  obtain ⟨mB, J', _⟩ := ins_get I.hok hb'
  obtain ⟨od, J, _⟩ := J.look
  obtain ⟨od', J', _⟩ := J'.look
  obtain ⟨m, hF⟩ := I.fr
  refine PySem.W.cmp_K (op := .Eq) (tb := .ref Ca) hr.units0 hF I.ok.mod.kin J J'.type (by simp [PySem.W.notFirst]) O.eq O.fn ?_
  refine wpAny_mono (own_run F hr hg rfl (hb s _ I.kIn rfl) (hv (.cons rfl (.cons rfl .nil)) .nil) I hs) (fun w s' q => ?_) fun _ _ e => e
  obtain ⟨z, H', I', rz, t, et, q⟩ := q
  subst et
  cases rz
  exact ⟨.bl t, H', I', rfl, q⟩
theorem op_neO {gv : List Value → List Value → List Value} (O : OwnE X.K Ca fa) (F : FnOkG X.prog X.w X.K X.mg X.base (L2.CX X.prog X.w) k fa fd ps sp) (hr : Room (k + 1) X.A) (hg : X.A.guards = some []) (hb : ∀ (s : Shared) (us : List Value), X.K.In s.heap → us.length = 2 → BindsTo s fd ⟨us, []⟩ (ps.zip (gv us [])))
    (hv : ∀ {vs us zs ws}, Vals vs us → Vals zs ws → Vals (gV vs zs) (gv us ws)) : OpR X (compareOp .NotEq) (rEqO Ca sp gV not) := by
  intro pins s σ H x y v u Q I rx ry ⟨a, b, dx, dy, fs, gs, ex, ey, ha, hb', hs⟩
  subst ex; subst ey
  cases rx; cases ry
  obtain ⟨mA, J, _⟩ := ins_get I.hok ha
  obtain ⟨mB, J', _⟩ := ins_get I.hok hb'
  obtain ⟨od, J, _⟩ := J.look
  obtain ⟨od', J', _⟩ := J'.look
  show wpAny (model X.prog X.w) X.A (richCompare .NotEq (.ref a) (.ref b)) (EP X pins σ Q) X.xe s
  refine L3N.rc_neO (by have := hr.units; omega) I.kIn J J'.type O.ob O.ne O.eq O.fn ?_
  refine wpAny_mono (own_run F hr.in1 hg rfl (hb s _ I.kIn rfl) (hv (.cons rfl (.cons rfl .nil)) .nil) I hs) (fun w s' q => ?_) fun _ _ e => e
  obtain ⟨z, H', I', rz, t, et, q⟩ := q
  subst et
  cases rz
  exact ⟨t, rfl, .bl (!t), H', I', rfl, q⟩
/-- x == y, x != y: f of the class c answers -/
def oEqO (c : Nat) (sem : SemF) (g : List Src) (f : Bool → Bool) : O2 := fun x y C Q => ∃ p q fs gs, x = .ref p ∧ y = .ref q ∧ C p = some (.ins c fs) ∧ C q = some (.ins c gs) ∧ sem (gath g [.ref p, .ref q] []) C (fun d C' => ∃ t, d = .bl t ∧ Q (.bl (f t)) C') fun _ _ => False
theorem lk_eqO {c np : Nat} {sem : SemF} {f : Bool → Bool} (hc : cl c = some Ca) (hl : (gath g [.ref 0, .ref 0] []).length = np) (b3 : ∀ H ds vs es zs, ds.length = 2 → es.length = 0 → RepL X.K H ds vs → RepL X.K H es zs → RepL X.K H (gath g ds es) (gV vs zs)) : Lk2 X.K cl (rEqO Ca (spC X.K cl np sem) gV f) (oEqO c sem g f) :=
  fun H C d e v u Q Qc rd re R ⟨p, q, fs, gs, e1, e2, h1, h2, h3⟩ hq => by
    subst e1; subst e2
    cases rd; cases re
    obtain ⟨Ca1, dx, fv, hc1, g1, _⟩ := R p _ h1
    obtain ⟨Ca2, dy, gv, hc2, g2, _⟩ := R q _ h2
    rw [hc] at hc1 hc2
    cases hc1; cases hc2
    refine ⟨p, q, dx, dy, fv, gv, rfl, rfl, g1, g2, _, C, _, _, b3 H [.ref p, .ref q] _ [] _ rfl rfl (.cons (.ref p) (.cons (.ref q) .nil)) .nil, ?_, R, h3, ?_, fun _ _ _ _ _ z => z.elim⟩
    · rw [← hl]; simp only [gath, List.length_map]
    · intro d' C' v' H' ⟨t, et, qt⟩ rv R' kk
      subst et
      cases rv
      exact ⟨t, rfl, hq _ _ _ _ qt (.bl _) R' kk⟩
end
end L3

/-! list(zip(xs, ys)) of two lists -/
namespace L3N
open PySem PySem.Spec PyProof.Rows
theorem zip_no_len : typeLookup (.type "zip") "__len__" = pure none := by rw [typeLookup_type, builtinLookup_eq_fast]; kernel_rfl
theorem zip_no_hint : typeLookup (.type "zip") "__length_hint__" = pure none := by rw [typeLookup_type, builtinLookup_eq_fast]; kernel_rfl
section
variable {prog : Program} {w : World} {A : Around} {E : Value → Shared → Prop} {s : Shared} {z TI TO T i1 i2 : Addr} {f : Bool} {oT : Obj} {fp1 fp2 : List Addr} {n1 n2 i : Nat} {P1 P2 : Nat → Value → Prop} {St1 St2 : Nat → Heap → Prop}
theorem item_held {Q : Value → Shared → Prop} (S : ZipSep2 z TI TO i1 i2 fp1 fp2) (D1 : Draws prog w A i1 fp1 n1 P1 St1) (D2 : Draws prog w A i2 fp2 n2 P2 St2) (hz : IsZipHeld s.heap z TI TO T f) (hT : s.heap.get? T = some oT) (hTI : IsTupOf2 s.heap TI (.ref i1) (.ref i2))
    (st1 : St1 i s.heap) (st2 : St2 i s.heap) (hlt1 : i < n1) (hlt2 : i < n2)
    (hQ : ∀ x1 x2 h' tk, P1 i x1 → P2 i x2 → IsZipHeld h' z TI TO T true → St1 (i + 1) h' → St2 (i + 1) h' → IsTupOf2 h' s.heap.objs.size x1 x2 → h'.objs.size = s.heap.objs.size + 1 →
      (∀ c o, c ≠ z → c ≠ i1 → c ≠ i2 → s.heap.get? c = some o → h'.get? c = some o) → Q (.ref s.heap.objs.size) { s with heap := h', toks := tk }) :
    wpAny (model prog w) A (Builtin.«zip.__next__» ⟨[.ref z], []⟩) (fun fin s' => ∃ v, fin = .done (.ret v) ∧ Q v s') E s := by
  obtain ⟨hp, g, d, tk0, os⟩ := s
  show wpAny _ _ (field (.ref z) 2 >>= _) _ _ _
  refine wpAny_bind (wpAny_field hz rfl (x := .bool false) rfl ?_)
  show wpAny _ _ (field (.ref z) 3 >>= _) _ _ _
  refine wpAny_bind (wpAny_field hz rfl (x := .ref TI) rfl ?_)
  refine wpAny_bind (wpAny_seqItems hTI rfl ?_)
  show wpAny _ _ (Builtin.SmallTypes.ownedTupleIsFree (.ref z) >>= _) _ _ _
  refine wpAny_bind (wpAny_tupleHeld_zip hz hT fun h₁ hz₁ hs₁ => ?_)
  replace hs₁ : Heap.SameBut z hp h₁ := hs₁
  simp only [Bool.false_eq_true, if_false]
  refine wpAny_bind ?_
  rw [← Array.forIn_toList]
  simp only [List.forIn_cons, List.forIn_nil]
  refine wpAny_bind (wpAny_bind (wpAny_holding ?_))
  show wpAny _ _ (Builtin.SmallTypes.nextOf (.ref i1) >>= _) _ _ ⟨h₁, g, d, tk0, os⟩
  refine wpAny_bind (D1.item i _ _ _ hlt1 (D1.over st1 hs₁ S.zf1) fun x1 p1 tk1 hx1 sn1 hp1 => wpAny_pure ?_)
  replace hp1 : Heap.SameBut i1 h₁ p1 := hp1
  refine wpAny_pure ?_
  refine wpAny_bind (wpAny_bind (wpAny_holding ?_))
  show wpAny _ _ (Builtin.SmallTypes.nextOf (.ref i2) >>= _) _ _ ⟨p1, g, d, tk1, os⟩
  refine wpAny_bind (D2.item i _ _ _ hlt2 (D2.over (D2.over st2 hs₁ S.zf2) hp1 S.sep1_2) fun x2 p2 tk2 hx2 sn2 hp2 => wpAny_pure ?_)
  replace hp2 : Heap.SameBut i2 p1 p2 := hp2
  refine wpAny_pure (wpAny_pure ?_)
  show wpAny _ _ (newTuple [x1, x2] >>= _) _ _ ⟨p2, g, d, tk2, os⟩
  refine wpAny_bind (wpAny_newTuple ?_)
  have hsz : p2.objs.size = hp.objs.size := by rw [hp2.1, hp1.1, hs₁.1]
  have hz3 : IsZipHeld p2 z TI TO T true := hp2.extBut _ _ S.zi2 (hp1.extBut _ _ S.zi1 hz₁)
  have hk : ∀ c o, c ≠ z → c ≠ i1 → c ≠ i2 → hp.get? c = some o → p2.get? c = some o := fun c o c1 c2 c3 e => hp2.extBut _ _ c3 (hp1.extBut _ _ c2 (hs₁.extBut _ _ c1 e))
  refine wpAny_pure ⟨_, rfl, ?_⟩
  show Q (.ref p2.objs.size) _
  have hpp : IsTupOf2 (p2.push { cls := .type "tuple", data := .seq #[x1, x2] }) p2.objs.size x1 x2 := Heap.get?_push_size _ rfl
  have hz4 : (p2.push { cls := .type "tuple", data := .seq #[x1, x2] }).objs.size = p2.objs.size + 1 := Heap.size_push ..
  rw [hsz] at hpp hz4 ⊢
  exact hQ x1 x2 _ tk2 hx1 hx2 (Heap.get?_push_of_some _ hz3) (D1.frame _ _ _ (D1.over sn1 hp2 S.sep2_1) fun b _ o e => Heap.get?_push_of_some _ e) (D2.frame _ _ _ sn2 fun b _ o e => Heap.get?_push_of_some _ e) hpp hz4 fun c o c1 c2 c3 e => Heap.get?_push_of_some _ (hk c o c1 c2 c3 e)
theorem end_held {Q : Fin → Shared → Prop} (S : ZipSep2 z TI TO i1 i2 fp1 fp2) (D1 : Draws prog w A i1 fp1 n1 P1 St1) (D2 : Draws prog w A i2 fp2 n2 P2 St2) (hz : IsZipHeld s.heap z TI TO T f) (hT : s.heap.get? T = some oT) (hTI : IsTupOf2 s.heap TI (.ref i1) (.ref i2))
    (st1 : St1 i s.heap) (st2 : St2 i s.heap) (hle1 : i ≤ n1) (hle2 : i ≤ n2) (hend : i = n1 ∨ i = n2)
    (hE : ∀ h' tk e, (∀ c o, c ≠ z → c ≠ i1 → c ≠ i2 → s.heap.get? c = some o → h'.get? c = some o) → (∃ o, h'.get? e = some o ∧ o.cls = .type "StopIteration") → E (.ref e) { s with heap := h', toks := tk }) :
    wpAny (model prog w) A (Builtin.«zip.__next__» ⟨[.ref z], []⟩) Q E s := by
  obtain ⟨hp, g, d, tk0, os⟩ := s
  show wpAny _ _ (field (.ref z) 2 >>= _) _ _ _
  refine wpAny_bind (wpAny_field hz rfl (x := .bool false) rfl ?_)
  show wpAny _ _ (field (.ref z) 3 >>= _) _ _ _
  refine wpAny_bind (wpAny_field hz rfl (x := .ref TI) rfl ?_)
  refine wpAny_bind (wpAny_seqItems hTI rfl ?_)
  show wpAny _ _ (Builtin.SmallTypes.ownedTupleIsFree (.ref z) >>= _) _ _ _
  refine wpAny_bind (wpAny_tupleHeld_zip hz hT fun h₁ hz₁ hs₁ => ?_)
  replace hs₁ : Heap.SameBut z hp h₁ := hs₁
  simp only [Bool.false_eq_true, if_false]
  refine wpAny_bind ?_
  rw [← Array.forIn_toList]
  simp only [List.forIn_cons, List.forIn_nil]
  refine wpAny_bind (wpAny_bind (wpAny_holding ?_))
  show wpAny _ _ (Builtin.SmallTypes.nextOf (.ref i1) >>= _) _ _ ⟨h₁, g, d, tk0, os⟩
  by_cases hlt1 : i < n1
  · refine wpAny_bind (D1.item i _ _ _ hlt1 (D1.over st1 hs₁ S.zf1) fun x1 p1 tk1 hx1 sn1 hp1 => wpAny_pure ?_)
    replace hp1 : Heap.SameBut i1 h₁ p1 := hp1
    have hi2 : i = n2 := by omega
    refine wpAny_pure ?_
    refine wpAny_bind (wpAny_bind (wpAny_holding ?_))
    show wpAny _ _ (Builtin.SmallTypes.nextOf (.ref i2) >>= _) _ _ ⟨p1, g, d, tk1, os⟩
    refine wpAny_bind (D2.done ⟨p1, g, d, tk1, os⟩ _ _ (by rw [← hi2]; exact D2.over (D2.over st2 hs₁ S.zf2) hp1 S.sep1_2) fun q e hq he => ?_)
    replace hq : Heap.ExtBut i2 p1 q := hq
    exact hE q tk1 e (fun c o c1 c2 c3 x => hq _ _ c3 (hp1.extBut _ _ c2 (hs₁.extBut _ _ c1 x))) he
  · have hi1 : i = n1 := by omega
    refine wpAny_bind (D1.done ⟨h₁, g, d, tk0, os⟩ _ _ (by rw [← hi1]; exact D1.over st1 hs₁ S.zf1) fun q e hq he => ?_)
    replace hq : Heap.ExtBut i1 h₁ q := hq
    exact hE q tk0 e (fun c o c1 c2 _ x => hq _ _ c2 (hs₁.extBut _ _ c1 x)) he
theorem next_item_held {Q : Option Value → Shared → Prop} (S : ZipSep2 z TI TO i1 i2 fp1 fp2) (D1 : Draws prog w A.in1 i1 fp1 n1 P1 St1) (D2 : Draws prog w A.in1 i2 fp2 n2 P2 St2) (hz : IsZipHeld s.heap z TI TO T f) (hT : s.heap.get? T = some oT) (hTI : IsTupOf2 s.heap TI (.ref i1) (.ref i2))
    (st1 : St1 i s.heap) (st2 : St2 i s.heap) (hlt1 : i < n1) (hlt2 : i < n2)
    (hQ : ∀ x1 x2 h' tk, P1 i x1 → P2 i x2 → IsZipHeld h' z TI TO T true → St1 (i + 1) h' → St2 (i + 1) h' → IsTupOf2 h' s.heap.objs.size x1 x2 → h'.objs.size = s.heap.objs.size + 1 →
      (∀ c o, c ≠ z → c ≠ i1 → c ≠ i2 → s.heap.get? c = some o → h'.get? c = some o) → Q (some (.ref s.heap.objs.size)) { s with heap := h', toks := tk }) : wpAny (model prog w) A (pyNext (.ref z)) Q E s := by
  have hTy : s.TypeIs (.ref z) "zip" := ⟨_, hz, rfl⟩
  unfold pyNext
  exact wpAny_bind (wpAny_attempt (wpAny_callSpecial?_slot (name := Str.ofString "__next__") hTy F.slot_zip_next
    (wpAny_call_entry F.slot_zip_next hTy F.entry_zip_next
      (item_held S D1 D2 hz hT hTI st1 st2 hlt1 hlt2 fun x1 x2 h' tk y1 y2 b1 d1 d2 b5 b6 b7 => wpAny_pure (hQ x1 x2 h' tk y1 y2 b1 d1 d2 b5 b6 b7)) (F.args_zip_next_1 _))))
theorem next_end_held {Q : Option Value → Shared → Prop} (S : ZipSep2 z TI TO i1 i2 fp1 fp2) (D1 : Draws prog w A.in1 i1 fp1 n1 P1 St1) (D2 : Draws prog w A.in1 i2 fp2 n2 P2 St2) (hz : IsZipHeld s.heap z TI TO T f) (hT : s.heap.get? T = some oT) (hTI : IsTupOf2 s.heap TI (.ref i1) (.ref i2))
    (st1 : St1 i s.heap) (st2 : St2 i s.heap) (hle1 : i ≤ n1) (hle2 : i ≤ n2) (hend : i = n1 ∨ i = n2)
    (hQ : ∀ h' tk, (∀ c o, c ≠ z → c ≠ i1 → c ≠ i2 → s.heap.get? c = some o → h'.get? c = some o) → Q none { s with heap := h', toks := tk }) : wpAny (model prog w) A (pyNext (.ref z)) Q E s := by
  have hTy : s.TypeIs (.ref z) "zip" := ⟨_, hz, rfl⟩
  unfold pyNext
  refine wpAny_bind (wpAny_attempt (wpAny_callSpecial?_slot (name := Str.ofString "__next__") hTy F.slot_zip_next
    (wpAny_call_entry F.slot_zip_next hTy F.entry_zip_next (end_held S D1 D2 hz hT hTI st1 st2 hle1 hle2 hend fun h' tk e hk he => ?_) (F.args_zip_next_1 _))))
  obtain ⟨o, ho, hc⟩ := he
  refine wpAny_bind (wpAny_isInstance (T := "StopIteration") (b := true) ⟨o, ho, hc⟩ isSubtype_stop ?_)
  exact wpAny_pure (hQ _ _ hk)
end
/-- the pairs that were laid -/
structure ZPairs (h0 h : Heap) (S : Addr) (xs ys : Array Value) (ts : List Addr) : Prop where
  tup : ∀ (j : Nat) (t : Addr), ts[j]? = some t → (∃ x y, xs[j]? = some x ∧ ys[j]? = some y ∧ IsTupOf2 h t x y) ∧ t ≠ S ∧ h0.objs.size ≤ t
  nod : ts.Nodup
  hS : ∃ c, h.get? S = some { cls := .type "list", data := .seq (ts.map Value.ref).toArray c }
  keep : ∀ b o, h0.get? b = some o → h.get? b = some o
structure ZSt (h0 h : Heap) (z TI TO i1 i2 S : Addr) (St1 St2 : Nat → Heap → Prop) (xs ys : Array Value) (i : Nat) (ts : List Addr) : Prop where
  hTI : IsTupOf2 h TI (.ref i1) (.ref i2)
  h1 : St1 i h
  h2 : St2 i h
  zz : (IsZip h z TI TO .none ∧ ∃ a b, IsTupOf2 h TO a b) ∨ ∃ T f oT, IsZipHeld h z TI TO T f ∧ h.get? T = some oT ∧ T ≠ z ∧ T ≠ i1 ∧ T ≠ i2 ∧ T ≠ S
  thO : ∃ o, h.get? TO = some o
  len : ts.length = i
  far : ∀ t ∈ ts, t ≠ z ∧ t ≠ TO ∧ t ≠ i1 ∧ t ≠ i2
  ps : ZPairs h0 h S xs ys ts
  big : h0.objs.size ≤ h.objs.size
structure ZOff (h0 : Heap) (z TI TO i1 i2 S : Addr) (fp1 fp2 : List Addr) : Prop where
  D : ZipSep2 z TI TO i1 i2 fp1 fp2
  Sz : S ≠ z
  STI : S ≠ TI
  STO : S ≠ TO
  S1 : S ∉ fp1
  S2 : S ∉ fp2
  gz : h0.objs.size ≤ z
  gTO : h0.objs.size ≤ TO
  gi1 : h0.objs.size ≤ i1
  gi2 : h0.objs.size ≤ i2
  gS : h0.objs.size ≤ S
section
variable {prog : Program} {w : World} {A : Around} {s : Shared} {h0 h h' : Heap} {z TI TO i1 i2 S : Addr} {fp1 fp2 : List Addr} {St1 St2 : Nat → Heap → Prop} {xs ys : Array Value} {i : Nat} {ts : List Addr}
theorem ZOff.Si1 (O : ZOff h0 z TI TO i1 i2 S fp1 fp2) : S ≠ i1 := fun e => O.S1 (by rw [e]; exact O.D.mem1)
theorem ZOff.Si2 (O : ZOff h0 z TI TO i1 i2 S fp1 fp2) : S ≠ i2 := fun e => O.S2 (by rw [e]; exact O.D.mem2)
/-- other than these is kept -/
theorem ZPairs.move (O : ZOff h0 z TI TO i1 i2 S fp1 fp2) (p : ZPairs h0 h S xs ys ts) (far : ∀ t ∈ ts, t ≠ z ∧ t ≠ TO ∧ t ≠ i1 ∧ t ≠ i2) (hk : ∀ c o, c ≠ z → c ≠ TO → c ≠ i1 → c ≠ i2 → h.get? c = some o → h'.get? c = some o) : ZPairs h0 h' S xs ys ts := by
  refine ⟨fun j t e => ?_, p.nod, ?_, fun b o e => ?_⟩
  · obtain ⟨⟨x, y, e1, e2, e3⟩, r1, r2⟩ := p.tup j t e
    obtain ⟨f1, f2, f3, f4⟩ := far t (List.mem_of_getElem? e)
    exact ⟨⟨x, y, e1, e2, hk _ _ f1 f2 f3 f4 e3⟩, r1, r2⟩
  · obtain ⟨c, e⟩ := p.hS
    exact ⟨c, hk _ _ O.Sz O.STO O.Si1 O.Si2 e⟩
  · have hb := Heap.lt_size e
    have n : ∀ a, h0.objs.size ≤ a → b ≠ a := fun a ha => Nat.ne_of_lt (Nat.lt_of_lt_of_le hb ha)
    exact hk _ _ (n _ O.gz) (n _ O.gTO) (n _ O.gi1) (n _ O.gi2) (p.keep b o e)
/-- one more pair in the list -/
theorem ZPairs.push {x y : Value} {t : Addr} (O : ZOff h0 z TI TO i1 i2 S fp1 fp2) (p : ZPairs h0 h S xs ys ts) (hx : xs[ts.length]? = some x) (hy : ys[ts.length]? = some y) (ht : IsTupOf2 h t x y) (htS : t ≠ S) (htn : t ∉ ts) (hg : h0.objs.size ≤ t) :
    ZPairs h0 (h.update S (Obj.mapSeq (·.push (.ref t)))) S xs ys (ts ++ [t]) := by
  obtain ⟨c, hS⟩ := p.hS
  have oth : ∀ b o, b ≠ S → h.get? b = some o → (h.update S (Obj.mapSeq (·.push (.ref t)))).get? b = some o := fun b o hb e => (Heap.get?_update_other _ _ (Ne.symm hb)).trans e
  refine ⟨fun j u e => ?_, ?_, ?_, fun b o e => ?_⟩
  · by_cases hj : j < ts.length
    · rw [List.getElem?_append_left hj] at e
      obtain ⟨⟨x', y', e1, e2, e3⟩, r1, r2⟩ := p.tup j u e
      exact ⟨⟨x', y', e1, e2, oth _ _ r1 e3⟩, r1, r2⟩
    · rw [List.getElem?_append_right (by omega)] at e
      cases hk : j - ts.length with
      | zero =>
        rw [hk] at e
        simp only [List.getElem?_cons_zero, Option.some.injEq] at e
        subst e
        have ej : j = ts.length := by omega
        rw [ej]
        exact ⟨⟨x, y, hx, hy, oth _ _ htS ht⟩, htS, hg⟩
      | succ k => rw [hk] at e; simp at e
  · refine List.nodup_append.mpr ⟨p.nod, by simp, fun a ha b hb => ?_⟩
    rw [List.mem_singleton.mp hb]
    exact fun e => htn (e ▸ ha)
  · have e : (List.map Value.ref (ts ++ [t])).toArray = (List.map Value.ref ts).toArray.push (.ref t) := by simp
    rw [e]
    exact ⟨_, Heap.get?_update_self (Obj.mapSeq (·.push (.ref t))) hS rfl⟩
  · have hb := Heap.lt_size e
    exact oth _ _ (Nat.ne_of_lt (Nat.lt_of_lt_of_le hb O.gS)) (p.keep b o e)
/-- the list takes the pairs, one by one -/
theorem zip_drain {res : Value} {R : Result → Shared → Prop} (O : ZOff h0 z TI TO i1 i2 S fp1 fp2) (D1 : Draws prog w A.in1.in1 i1 fp1 xs.size (fun i v => xs[i]? = some v) St1) (D2 : Draws prog w A.in1.in1 i2 fp2 ys.size (fun i v => ys[i]? = some v) St2) (hsz : min xs.size ys.size ≤ sizeLine)
    (hend : ∀ h' ts tk, ts.length = min xs.size ys.size → ZPairs h0 h' S xs ys ts → R (.ok (.ret res)) { s with heap := h', toks := tk }) :
    ∀ (k i : Nat) (ts : List Addr) (h : Heap) (tk : Nat), min xs.size ys.size - i = k → i ≤ min xs.size ys.size → ZSt h0 h z TI TO i1 i2 S St1 St2 xs ys i ts → codeAny (model prog w) A (.builtin "list.extend.loop" ⟨[.ref S, .ref z, res], []⟩) R { s with heap := h, toks := tk } := by
  have D := O.D
  intro k
  induction k with
  | zero =>
    intro i ts h tk hk hi st
    obtain ⟨hTI, h1, h2, hz, thO, len, far, ps, big⟩ := st
    refine codeAny_builtin F.entry_extend_loop ?_
    rw [Around.under_plainId F.plain_extend_loop _]
    show wpAny _ A.in1 (pyNext (.ref z) >>= _) _ _ _
    have m1 := Nat.min_le_left xs.size ys.size
    have m2 := Nat.min_le_right xs.size ys.size
    have hend' : i = xs.size ∨ i = ys.size := by
      rcases Nat.le_total xs.size ys.size with q | q
      · exact .inl (by rw [Nat.min_eq_left q] at hk hi; omega)
      · exact .inr (by rw [Nat.min_eq_right q] at hk hi; omega)
    rcases hz with ⟨hz, a, b, hTO⟩ | ⟨T, f, oT, hz, hT, r1, r2, r3, r4⟩
    · refine wpAny_bind (wpAny_pyNext_zipD2_end (s := { s with heap := h, toks := tk }) (A := A.in1) D D1 D2 hz hTI hTO h1 h2 (by omega) (by omega) hend' fun h' tk' kp => ?_)
      exact wpAny_pure (hend h' ts tk' (by omega) (ps.move O far kp))
    · refine wpAny_bind (next_end_held (s := { s with heap := h, toks := tk }) (A := A.in1) D D1 D2 hz hT hTI h1 h2 (by omega) (by omega) hend' fun h' tk' kp => ?_)
      exact wpAny_pure (hend h' ts tk' (by omega) (ps.move O far fun c o c1 _ c3 c4 e => kp c o c1 c3 c4 e))
  | succ k ih =>
    intro i ts h tk hk hi st
    obtain ⟨hTI, h1, h2, hz, thO, len, far, ps, big⟩ := st
    refine codeAny_builtin F.entry_extend_loop ?_
    rw [Around.under_plainId F.plain_extend_loop _]
    show wpAny _ A.in1 (pyNext (.ref z) >>= _) _ _ _
    have hix : i < xs.size := Nat.lt_of_lt_of_le (by omega : i < min xs.size ys.size) (Nat.min_le_left ..)
    have hiy : i < ys.size := Nat.lt_of_lt_of_le (by omega : i < min xs.size ys.size) (Nat.min_le_right ..)
    have lt : ∀ {c o}, h.get? c = some o → h.objs.size ≠ c := fun e => Nat.ne_of_gt (Heap.lt_size e)
    have n1 : h.objs.size ≠ i1 := let ⟨_, e⟩ := D1.live _ _ h1; lt e
    have n2 : h.objs.size ≠ i2 := let ⟨_, e⟩ := D2.live _ _ h2; lt e
    have nS : h.objs.size ≠ S := let ⟨_, e⟩ := ps.hS; lt e
    have nTO : h.objs.size ≠ TO := let ⟨_, e⟩ := thO; lt e
    have nts : h.objs.size ∉ ts := fun m => by
      obtain ⟨j, hj⟩ := List.getElem?_of_mem m
      obtain ⟨⟨x, y, _, _, e⟩, _⟩ := ps.tup j _ hj
      exact lt e rfl
    -- what stands behind the next pair
    have go : ∀ (x y : Value) (h' : Heap) (tk' : Nat) (T : Addr) (f : Bool) (oT : Obj), xs[i]? = some x → ys[i]? = some y → IsZipHeld h' z TI TO T f → h'.get? T = some oT → T ≠ z → T ≠ i1 → T ≠ i2 → T ≠ S → IsTupOf2 h' TI (.ref i1) (.ref i2) → St1 (i + 1) h' → St2 (i + 1) h' → (∃ o, h'.get? TO = some o) →
        IsTupOf2 h' h.objs.size x y → h'.objs.size = h.objs.size + 1 → ZPairs h0 h' S xs ys ts → h.objs.size ≠ z →
        wpAny (model prog w) A.in1 (updateSeq S (·.push (.ref h.objs.size)) >>= fun _ => (pure (Fin.again (.builtin "list.extend.loop" ⟨[.ref S, .ref z, res], []⟩)) : Sem Fin)) (fun fin s' => match fin with | Fin.done f => R (.ok f) s' | Fin.again c' => c'.quiet = true ∧ codeAny (model prog w) A c' R s') (fun e s' => R (.error e) s') { s with heap := h', toks := tk' } := by
      intro x y h' tk' T f oT ex ey hz' hT' r1 r2 r3 r4 hTI' h1' h2' thO' hp hsz' ps' nz
      obtain ⟨c, hS⟩ := ps'.hS
      have tl : (ts.map Value.ref).toArray.size < sizeLine := by
        rw [List.size_toArray, List.length_map]; omega
      refine wpAny_bind (wpAny_updateSeq hS rfl (wpAny_pure ⟨plainId_quiet F.plain_extend_loop _, ?_⟩) (Nat.le_of_lt tl) (by show ((ts.map Value.ref).toArray.push _).size ≤ sizeLine + 1; rw [Array.size_push]; omega))
      have oth : ∀ b o, b ≠ S → h'.get? b = some o → (h'.update S (Obj.mapSeq (·.push (.ref h.objs.size)))).get? b = some o := fun b o hb e => (Heap.get?_update_other _ _ (Ne.symm hb)).trans e
      have usz : (h'.update S (Obj.mapSeq (·.push (.ref h.objs.size)))).objs.size = h'.objs.size := by first | exact Heap.size_update .. | simp [Heap.update]
      refine ih (i + 1) (ts ++ [h.objs.size]) _ tk' (by omega) (by omega) ⟨oth _ _ (Ne.symm O.STI) hTI', D1.frame _ _ _ h1' fun b hb o e => oth b o (fun q => O.S1 (q ▸ hb)) e, D2.frame _ _ _ h2' fun b hb o e => oth b o (fun q => O.S2 (q ▸ hb)) e,
        .inr ⟨T, f, oT, oth _ _ (Ne.symm O.Sz) hz', oth _ _ r4 hT', r1, r2, r3, r4⟩, (let ⟨o, e⟩ := thO'; ⟨o, oth _ o (Ne.symm O.STO) e⟩), by rw [List.length_append, len]; rfl, fun t ht => ?_, ps'.push O (by rw [len]; exact ex) (by rw [len]; exact ey) hp nS nts big, by show h0.objs.size ≤ (h'.update S (Obj.mapSeq (·.push (.ref h.objs.size)))).objs.size; omega⟩
      rcases List.mem_append.mp ht with ht | ht
      · exact far t ht
      · rw [List.mem_singleton.mp ht]; exact ⟨nz, nTO, n1, n2⟩
    rcases hz with ⟨hz, a, b, hTO⟩ | ⟨T, f, oT, hz, hT, r1, r2, r3, r4⟩
    · refine wpAny_bind (wpAny_pyNext_zipD2_item (s := { s with heap := h, toks := tk }) (A := A.in1) D D1 D2 hz hTI hTO h1 h2 hix hiy fun x y h' tk' ex ey a1 a2 a3 a4 a5 a6 kp => ?_)
      exact go x y h' tk' h.objs.size false _ ex ey a1 a5 (lt hz) n1 n2 nS (kp _ _ D.TIz D.TITO D.TIi1 D.TIi2 hTI) a3 a4 ⟨_, a2⟩ a5 a6 (ps.move O far kp) (lt hz)
    · refine wpAny_bind (next_item_held (s := { s with heap := h, toks := tk }) (A := A.in1) D D1 D2 hz hT hTI h1 h2 hix hiy fun x y h' tk' ex ey a1 a3 a4 a5 a6 kp => ?_)
      exact go x y h' tk' T true oT ex ey a1 (kp _ _ r1 r2 r3 hT) r1 r2 r3 r4 (kp _ _ D.TIz D.TIi1 D.TIi2 hTI) a3 a4 (let ⟨o, e⟩ := thO; ⟨o, kp _ o D.TOz D.Ti1 D.Ti2 e⟩) a5 a6 (ps.move O far fun c o c1 _ c3 c4 e => kp c o c1 c3 c4 e) (lt hz)
/-- list(z), z a zip of two lists that has not begun -/
theorem call_list_zip {E : Value → Shared → Prop} {Q : Value → Shared → Prop} (hS : s.heap.objs.size = S) (O : ZOff h0 z TI TO i1 i2 S fp1 fp2) (D1 : Draws prog w A.in1.in1.in1 i1 fp1 xs.size (fun i v => xs[i]? = some v) St1) (D2 : Draws prog w A.in1.in1.in1 i2 fp2 ys.size (fun i v => ys[i]? = some v) St2) (hsz : min xs.size ys.size ≤ sizeLine)
    (hz : IsZip s.heap z TI TO .none) (hTI : IsTupOf2 s.heap TI (.ref i1) (.ref i2)) (hTO : ∃ a b, IsTupOf2 s.heap TO a b) (h1 : St1 0 s.heap) (h2 : St2 0 s.heap)
    (hk : ∀ b o, h0.get? b = some o → s.heap.get? b = some o) (hb : h0.objs.size ≤ s.heap.objs.size)
    (hQ : ∀ h' ts tk, ts.length = min xs.size ys.size → ZPairs h0 h' S xs ys ts → Q (.ref S) { s with heap := h', toks := tk }) : wpAny (model prog w) A (call (.type "list") [.ref z]) Q E s := by
  subst hS
  have hzl := Heap.lt_size hz
  have hSa : s.heap.objs.size ≠ z := O.Sz
  refine callType_codes (Q₁ := fun obj s₁ => obj = .ref s.heap.objs.size ∧ s₁ = { s with heap := s.heap.push { cls := .type "list", data := .seq #[] } }) F.called_list (F.typeCall_list_1 _) F.entry_list_init
    (code_list_new _ ⟨rfl, rfl⟩) fun obj s₁ h₁ => ?_
  obtain ⟨rfl, rfl⟩ := h₁
  have hS : (s.heap.push { cls := .type "list", data := .seq #[] }).get? s.heap.objs.size = some { cls := .type "list", data := .seq #[] } := Heap.get?_push_size _ rfl
  refine ⟨⟨_, hS, rfl⟩, F.args_list_init_2 _ _, ?_⟩
  show wpAny _ A.in1.in1 (do let old ← Builtin.List.listItems (.ref s.heap.objs.size); Builtin.List.listUpdate (.ref s.heap.objs.size) (fun _ => #[]); letGo old.toList.reverse; Builtin.List.listExtendWith (.ref s.heap.objs.size) (.ref z) .none) _ _ _
  refine wpAny_bind ?_
  unfold Builtin.List.listItems
  refine wpAny_bind (wpAny_seqItems hS rfl (wpAny_pure ?_))
  show wpAny _ A.in1.in1 (updateSeq s.heap.objs.size (fun _ => #[]) >>= fun _ => letGo (#[] : Array Value).toList.reverse >>= fun _ => Builtin.List.listExtendWith (.ref s.heap.objs.size) (.ref z) .none) _ _ _
  refine wpAny_bind (wpAny_updateSeq hS rfl ?_)
  have hS2 := Heap.get?_update_self (Obj.mapSeq (fun _ => (#[] : Array Value))) hS rfl
  refine wpAny_bind (wpAny_letGo ?_)
  unfold Builtin.List.listExtendWith
  have up : ∀ (h : Heap) (f : Obj → Obj), (∀ b o, s.heap.get? b = some o → h.get? b = some o) → ∀ b o, s.heap.get? b = some o → (h.update s.heap.objs.size f).get? b = some o := fun h f q b o e =>
    (Heap.get?_update_other _ _ (Ne.symm (Nat.ne_of_lt (Heap.lt_size e)))).trans (q b o e)
  have k1 : ∀ b o, s.heap.get? b = some o → (s.heap.push { cls := .type "list", data := .seq #[] }).get? b = some o := fun b o e => Heap.get?_push_of_some _ e
  have k2 := up _ (Obj.mapSeq (fun _ => (#[] : Array Value))) k1
  have zty : ∀ {h : Heap}, (∀ b o, s.heap.get? b = some o → h.get? b = some o) → ({ s with heap := h } : Shared).TypeIs (.ref z) "zip" := fun {h} q => ⟨_, q _ _ hz, rfl⟩
  refine wpAny_bind (wpAny_typeOf (zty k2) ?_)
  have g1 : Builtin.List.listSameRef (.ref s.heap.objs.size) (.ref z) = false := by simp [Builtin.List.listSameRef, hSa]
  have g2 : (Value.type "zip" == Value.type "list") = false := by decide
  have g3 : (Value.type "zip" == Value.type "tuple") = false := by decide
  simp only [g1, g2, g3, Bool.or_false, Bool.false_eq_true, if_false]
  refine wpAny_bind (wpAny_pyIter_zip (s := { s with heap := _ }) (k2 _ _ hz) ?_)
  refine wpAny_bind (wpAny_holding ?_)
  unfold Builtin.List.listLengthHint
  refine wpAny_bind (wpAny_specialOf (zty k2) zip_no_len ?_)
  show wpAny _ A.in1.in1 (specialOf (Value.ref z) (Str.ofString "__length_hint__") >>= _) _ _ _
  refine wpAny_bind (wpAny_specialOf (zty k2) zip_no_hint ?_)
  refine wpAny_pure ?_
  show wpAny _ A.in1.in1 (rule "list.extend.makes-room" >>= fun _ => Builtin.List.listTouch (.ref s.heap.objs.size) >>= fun _ =>
    again (.builtin "list.extend.loop" ⟨[.ref s.heap.objs.size, .ref z, .none], []⟩)) _ _ _
  refine wpAny_bind (wpAny_rule ?_)
  refine wpAny_bind ?_
  show wpAny _ A.in1.in1 (updateSeq s.heap.objs.size (·.push .none) >>= fun _ => updateSeq s.heap.objs.size (·.pop)) _ _ _
  refine wpAny_bind (wpAny_updateSeq hS2 rfl ?_)
  have hS3 := Heap.get?_update_self (Obj.mapSeq (·.push Value.none)) hS2 rfl
  refine wpAny_updateSeq (hz := by seq_fits) hS3 rfl ?_
  have hS4 := Heap.get?_update_self (Obj.mapSeq (·.pop)) hS3 rfl
  have k4 := up _ (Obj.mapSeq (·.pop)) (up _ (Obj.mapSeq (·.push Value.none)) k2)
  refine wpAny_pure ⟨plainId_quiet F.plain_extend_loop _, ?_⟩
  refine zip_drain (A := A.in1) (s := s) O D1 D2 hsz (fun h' ts tk hl ps => ⟨rfl, hQ h' ts tk hl ps⟩) _ 0 [] _ s.toks rfl (Nat.zero_le _) ⟨k4 _ _ hTI, D1.frame _ _ _ h1 fun b _ o e => k4 b o e, D2.frame _ _ _ h2 fun b _ o e => k4 b o e,
    .inl ⟨k4 _ _ hz, let ⟨a, b, e⟩ := hTO; ⟨a, b, k4 _ _ e⟩⟩, (let ⟨a, b, e⟩ := hTO; ⟨_, k4 _ _ e⟩), rfl, (fun _ h => nomatch h), ⟨fun j t e => by simp at e, .nil, ⟨_, hS4⟩, fun b o e => k4 b o (hk b o e)⟩, Nat.le_of_lt (Nat.lt_of_le_of_lt hb (Heap.lt_size hS4))⟩
end
/-- what zip takes: a list or a tuple -/
structure ZSrc (prog : Program) (w : World) (A : Around) (l : Addr) (items : Array Value) (h : Heap) : Prop where
  ex : ∃ (o : Obj) (Hh : Heap → Prop) (St : Addr → Nat → Heap → Prop), Begins (.ref l) o Hh ∧ Hh h ∧ l < h.objs.size ∧ (∀ it, l ≠ it → Draws prog w A it [it, l] items.size (fun i v => items[i]? = some v) (St it)) ∧ ∀ it h', h'.get? it = some o → Hh h' → St it 0 h'
theorem src_list {prog : Program} {w : World} {A : Around} {l : Addr} {items : Array Value} {h : Heap} (hh : A.handled = none) (hl : h.IsList l items) : ZSrc prog w A l items h :=
  ⟨_, _, fun it i h => h.IsListIter it l i ∧ h.IsList l items, begins_list l items, hl, (let ⟨_, e, _⟩ := hl; Heap.lt_size e), fun it hne => Draws.list hh it l hne items, fun it h' e hl' => ⟨⟨_, e, rfl, rfl⟩, hl'⟩⟩
theorem src_tuple {prog : Program} {w : World} {A : Around} {l : Addr} {items : Array Value} {h : Heap} (hh : A.handled = none) (hl : h.IsTuple l items) : ZSrc prog w A l items h :=
  ⟨_, _, fun it i h => h.IsTupleIter it l i ∧ h.IsTuple l items, begins_tuple l items, hl, (let ⟨_, e, _⟩ := hl; Heap.lt_size e), fun it hne => Draws.tuple hh it l hne items, fun it h' e hl' => ⟨⟨_, e, rfl, rfl⟩, hl'⟩⟩
theorem no_mem {a b c : Nat} (h1 : a ≠ b) (h2 : a ≠ c) : (a : Addr) ∉ ([b, c] : List Addr) := fun m => by
  rcases List.mem_cons.mp m with e | m
  · exact h1 e
  · exact h2 (List.mem_singleton.mp m)
theorem zoff {h0 : Heap} {n : Nat} {l1 l2 : Nat} (hn : h0.objs.size = n) (h1 : l1 < n) (h2 : l2 < n) : ZOff h0 (n + 4 : Nat) (n + 2 : Nat) (n + 3 : Nat) n (n + 1 : Nat) (n + 5 : Nat) [n, l1] [(n + 1 : Nat), l2] where
  D := {
    TIz := (by omega : (n + 2 : Nat) ≠ n + 4)
    TOz := (by omega : (n + 3 : Nat) ≠ n + 4)
    TITO := (by omega : (n + 2 : Nat) ≠ n + 3)
    TIi1 := (by omega : (n + 2 : Nat) ≠ n)
    mem1 := List.mem_cons_self
    zf1 := no_mem (by omega) (by omega)
    Tf1 := no_mem (by omega) (by omega)
    TIi2 := (by omega : (n + 2 : Nat) ≠ n + 1)
    mem2 := List.mem_cons_self
    zf2 := no_mem (by omega) (by omega)
    Tf2 := no_mem (by omega) (by omega)
    sep1_2 := no_mem (by omega) (by omega)
    sep2_1 := no_mem (by omega) (by omega) }
  Sz := (by omega : (n + 5 : Nat) ≠ n + 4)
  STI := (by omega : (n + 5 : Nat) ≠ n + 2)
  STO := (by omega : (n + 5 : Nat) ≠ n + 3)
  S1 := no_mem (by omega) (by omega)
  S2 := no_mem (by omega) (by omega)
  gz := by rw [hn]; exact Nat.le_add_right _ _
  gTO := by rw [hn]; exact Nat.le_add_right _ _
  gi1 := by rw [hn]; exact Nat.le_refl _
  gi2 := by rw [hn]; exact Nat.le_add_right _ _
  gS := by rw [hn]; exact Nat.le_add_right _ _
theorem zip_list {prog : Program} {w : World} {A : Around} {s : Shared} {l1 l2 : Addr} {xs ys : Array Value} {Q : Value → Shared → Prop} {E : Value → Shared → Prop} (Z1 : ZSrc prog w A.in1.in1.in1 l1 xs s.heap) (Z2 : ZSrc prog w A.in1.in1.in1 l2 ys s.heap) (hsz : min xs.size ys.size ≤ sizeLine)
    (hQ : ∀ S h' ts tk, s.heap.objs.size ≤ S → ts.length = min xs.size ys.size → ZPairs s.heap h' S xs ys ts → Q (.ref S) { s with heap := h', toks := tk }) :
    wpAny (model prog w) A (call (.type "zip") [.ref l1, .ref l2]) (fun v s1 => wpAny (model prog w) A (call (.type "list") [v]) Q E s1) E s := by
  obtain ⟨o1, H1, St1, B1, k1, lt1, D1, b1⟩ := Z1.ex
  obtain ⟨o2, H2, St2, B2, k2, lt2, D2, b2⟩ := Z2.ex
  refine zip_begins2 B1 B2 k1 k2 fun h' hz hTI hTO g1 g2 hn hk => ?_
  have O := zoff (h0 := s.heap) rfl lt1 lt2
  have n1 : l1 ≠ s.heap.objs.size := Nat.ne_of_lt lt1
  have n2 : l2 ≠ s.heap.objs.size + 1 := Nat.ne_of_lt (Nat.lt_succ_of_lt lt2)
  exact call_list_zip (s := { s with heap := h' }) (h0 := s.heap) hn O (D1 _ n1) (D2 _ n2) hsz hz hTI ⟨_, _, hTO⟩ (b1 _ _ g1 (B1.keeps _ _ k1 hk)) (b2 _ _ g2 (B2.keeps _ _ k2 hk)) hk (by rw [hn]; exact Nat.le_add_right _ _)
    fun h2 ts tk hl ps => hQ _ h2 ts tk (Nat.le_add_right _ _) hl ps
end L3N
namespace L3
open PySem L2 PySem.Spec PyProof.Rows
def tupH (H : Hp) : List (Addr × V × V) → Hp
  | [] => H
  | q :: r => upd (tupH H r) q.1 (.tup [q.2.1, q.2.2])
theorem tupH_off {H : Hp} {b : Addr} : ∀ {l : List (Addr × V × V)}, b ∉ l.map (·.1) → tupH H l b = H b
  | [], _ => rfl
  | q :: r, h => by
    simp only [List.map_cons, List.mem_cons, not_or] at h
    rw [tupH, upd_ne h.1]
    exact tupH_off h.2
theorem tupH_at {H : Hp} {q : Addr × V × V} : ∀ {l : List (Addr × V × V)}, (l.map (·.1)).Nodup → q ∈ l → tupH H l q.1 = some (.tup [q.2.1, q.2.2])
  | p :: r, nd, m => by
    simp only [List.map_cons, List.nodup_cons] at nd
    rw [tupH]
    rcases List.mem_cons.mp m with e | m
    · subst e; exact upd_same
    · have ne : q.1 ≠ p.1 := fun e => nd.1 (by rw [← e]; exact List.mem_map_of_mem m)
      rw [upd_ne ne]
      exact tupH_at nd.2 m
section
variable {X : Cx} {pins : List (Addr × Obj)} {σ : L2.St} {H : Hp} {s : Shared} {h' : Heap} {S : Addr} {l : List (Addr × V × V)}
theorem inv_pairs {tk : Nat} (I : Inv X pins σ H s) (nd : (l.map (·.1)).Nodup) (ge : ∀ q ∈ l, s.heap.objs.size ≤ q.1) (gS : s.heap.objs.size ≤ S) (nS : S ∉ l.map (·.1)) (keep : ∀ b u, s.heap.get? b = some u → h'.get? b = some u)
    (tu : ∀ q ∈ l, ∃ x y, RelV q.2.1 x ∧ RelV q.2.2 y ∧ IsTupOf2 h' q.1 x y) (li : ∃ c, h'.get? S = some { cls := .type "list", data := .seq (l.map fun q => Value.ref q.1).toArray c }) (len : l.length ≤ sizeLine) :
    Inv X pins σ (upd (tupH H l) S (.lst (l.map fun q => V.ref q.1))) { s with heap := h', toks := tk } := by
  have old : ∀ b, b < s.heap.objs.size → upd (tupH H l) S (.lst (l.map fun q => V.ref q.1)) b = H b := fun b hb => by
    have n1 : b ≠ S := Nat.ne_of_lt (Nat.lt_of_lt_of_le hb gS)
    have n2 : b ∉ l.map (·.1) := fun m => by
      obtain ⟨q, hq, e⟩ := List.mem_map.mp m
      exact absurd (Nat.lt_of_lt_of_le hb (ge q hq)) (by rw [e]; exact Nat.lt_irrefl _)
    rw [upd_ne n1, tupH_off n2]
  have kn : ∀ b o, H b = some o → b < s.heap.objs.size := fun b o e => I.hok.lt e
  refine I.un ⟨fun b u q _ _ _ => keep b u q, fun b u q _ _ _ => ⟨u.slots, keep b u q⟩, fun b u q n _ => ?_, fun b u q _ => ⟨u, keep b u q⟩, fun b xs q => ?_, fun b o u q => ?_, fun b ps q => ⟨#[], ?_⟩⟩ fun b u e => ?_
  · rw [old b (Heap.lt_size q)]; exact n
  · rw [old b (kn b _ q)]; exact q
  · rw [old b (kn b _ q)]; exact q
  · rw [old b (kn b _ q), q]; simp
  · by_cases hS : b = S
    · subst hS
      rw [upd_same] at e
      cases e
      obtain ⟨c, hc⟩ := li
      refine ⟨by rw [List.length_map]; exact len, _, c, ?_, hc⟩
      clear hc tu ge nd nS old len
      induction l with
      | nil => exact .nil
      | cons q r ih => exact .cons rfl ih
    · rw [upd_ne hS] at e
      by_cases hm : b ∈ l.map (·.1)
      · obtain ⟨q, hq, eq⟩ := List.mem_map.mp hm
        subst eq
        rw [tupH_at nd hq] at e
        cases e
        obtain ⟨x, y, r1, r2, ht⟩ := tu q hq
        exact ⟨by show 2 ≤ sizeLine; decide, [x, y], .cons r1 (.cons r2 .nil), ⟨_, ht, rfl, _, rfl⟩⟩
      · rw [tupH_off hm] at e
        refine (I.hok b u e).stay (fun c v _ q => keep c v q) (fun c q => ?_) fun c xs q => ?_
        · rw [old c (kn c _ q)]; exact q
        · rw [old c (kn c _ q)]; exact q
end
end L3

namespace L3
open PySem L2 PySem.Spec PyProof.Rows
def tLzip (K : PySem.W.Frag) (ta : TA) : TE := fun σ H Q => ta σ H fun vs H1 => ∃ a b xs ys, vs = [.ref a, .ref b] ∧ (SqL K H1 a xs ∨ SqT K H1 a xs) ∧ (SqL K H1 b ys ∨ SqT K H1 b ys) ∧
  ∀ (S : Addr) (l : List (Addr × V × V)), (l.map (·.1)).Nodup → S ∉ l.map (·.1) → H1 S = none → (∀ q ∈ l, H1 q.1 = none) → l.map (·.2) = xs.zip ys → Q (.ref S) (upd (tupH H1 l) S (.lst (l.map fun q => V.ref q.1)))
theorem src_of {X : Cx} {pins : List (Addr × Obj)} {σ : L2.St} {H : Hp} {s : Shared} {A : Around} {a : Addr} {xs : List V} (hh : A.handled = none) (I : Inv X pins σ H s) (h : SqL X.K H a xs ∨ SqT X.K H a xs) : ∃ its : List Value, Vals xs its ∧ xs.length ≤ sizeLine ∧ L3N.ZSrc X.prog X.w A a its.toArray s.heap := by
  rcases h with h | h
  · obtain ⟨its, r, p, z⟩ := I.list h
    exact ⟨its, r, z, L3N.src_list hh p.isList⟩
  · obtain ⟨its, r, p, z⟩ := I.tuple h
    exact ⟨its, r, z, L3N.src_tuple hh (show s.heap.IsTuple a its.toArray from p)⟩
theorem pe_lzip {X : Cx} {e1 e2 : Expr} {ta : TA} {p p2 pos pos2 : Pos} (hc : X.calm = true) (hgl : Gl X "list") (hml : X.mg "list" = none) (hgz : Gl X "zip") (hmz : X.mg "zip" = none) (ha : PA X [e1, e2] ta)
    (hs : starEach [e1, e2] X.env = (false, eval e1 X.env) :: starEach [e2] X.env) (hpl : (backTo pos2 (starEach [e2] X.env)).any (·.1) = false)
    (hs1 : starEach [.Call (.Name "zip" p2) [e1, e2] [] pos2] X.env = [(false, eval (.Call (.Name "zip" p2) [e1, e2] [] pos2) X.env)] := by rfl) :
    PE X (.Call (.Name "list" p) [.Call (.Name "zip" p2) [e1, e2] [] pos2] [] pos) (tLzip X.K ta) := by
  refine ⟨fun pins s σ H Q I h => ?_⟩
  refine wpAny_Call_Name_kw (ld_blt I hgl hml PyProof.Rows.boot_list ?_)
  refine PyProof.Rows.callWith_type1 ?_ hs1 rfl
  rw [hs1]
  show wpAny _ _ (spliced ((false, eval (.Call (.Name "zip" p2) [e1, e2] [] pos2) X.env) :: [])) _ _ s
  refine Calls.spliced_cons ?_
  refine wpAny_Call_Name_kw (ld_blt I hgz hmz PyProof.Rows.boot_zip ?_)
  refine PyProof.Rows.callWith_type1 ?_ hs hpl
  refine thn (ha.run pos2 pins s σ H _ I h) fun us s3 ⟨vs, H2, I3, r3, q3⟩ => ?_
  obtain ⟨a, b, xs, ys, rfl, ha', hb', q⟩ := q3
  cases r3 with
  | cons r rr =>
    cases rr with
    | cons r' rr =>
      cases rr
      cases r
      cases r'
      have hh : X.A.in1.in1.in1.handled = none := I3.ok.hd hc
      obtain ⟨its, rv, z1, S1⟩ := src_of hh I3 ha'
      obtain ⟨its2, rv2, z2, S2⟩ := src_of hh I3 hb'
      have l1 := rv.length
      have l2 := rv2.length
      refine wpAny_mono (L3N.zip_list (Q := EP X pins σ Q) (E := X.xe) S1 S2 (by simp only [List.size_toArray]; omega) fun S h' ts tk hS hl ps => ?_) (fun v s4 h4 => Calls.spliced_nil h4) fun _ _ z => z
      simp only [List.size_toArray] at hl
      have hzl : (xs.zip ys).length = ts.length := by rw [List.length_zip]; omega
      have m1 : (ts.zip (xs.zip ys)).map (·.1) = ts := List.map_fst_zip (by omega)
      have m2 : (ts.zip (xs.zip ys)).map (·.2) = xs.zip ys := List.map_snd_zip (by omega)
      have far : ∀ t ∈ ts, t ≠ S ∧ s3.heap.objs.size ≤ t := fun t ht => by
        obtain ⟨j, hj⟩ := List.getElem?_of_mem ht
        exact (ps.tup j t hj).2
      have ge : ∀ q ∈ ts.zip (xs.zip ys), s3.heap.objs.size ≤ q.1 := fun q hq => (far _ (List.of_mem_zip hq).1).2
      have nS : S ∉ (ts.zip (xs.zip ys)).map (·.1) := by rw [m1]; exact fun m => (far S m).1 rfl
      refine ⟨.ref S, _, inv_pairs (l := ts.zip (xs.zip ys)) I3 (by rw [m1]; exact ps.nod) ge hS nS ps.keep (fun q hq => ?_) ?_ (by rw [List.length_zip]; omega), rfl, q S _ (by rw [m1]; exact ps.nod) nS (I3.hok.fresh hS) (fun q hq => I3.hok.fresh (ge q hq)) m2⟩
      · obtain ⟨j, hj⟩ := List.getElem?_of_mem hq
        obtain ⟨t, x, y⟩ := q
        rw [List.getElem?_zip_eq_some] at hj
        obtain ⟨j1, j2⟩ := hj
        rw [List.getElem?_zip_eq_some] at j2
        obtain ⟨⟨x', y', e1, e2, e3⟩, _⟩ := ps.tup j t j1
        obtain ⟨u, hu, ru⟩ := rv.get j2.1
        obtain ⟨u2, hu2, ru2⟩ := rv2.get j2.2
        simp only [List.getElem?_toArray] at e1 e2
        rw [hu] at e1
        rw [hu2] at e2
        cases e1
        cases e2
        exact ⟨_, _, ru, ru2, e3⟩
      · obtain ⟨c, hc'⟩ := ps.hS
        refine ⟨c, ?_⟩
        have e : ((ts.zip (xs.zip ys)).map fun q => Value.ref q.1) = ts.map Value.ref := by
          have := congrArg (List.map Value.ref) m1
          rw [List.map_map] at this
          exact this
        rw [e]
        exact hc'
section
variable {K : PySem.W.Frag} {cl : ClsT} {H : Hp} {C : CH}
theorem rel_tups (R : Rel K cl H C) : ∀ {l : List (Addr × V × V)}, (l.map (·.1)).Nodup → (∀ q ∈ l, H q.1 = none) → Rel K cl (tupH H l) C ∧ Keep H C (tupH H l) C
  | [], _, _ => ⟨R, Keep.refl⟩
  | q :: r, nd, hl => by
    simp only [List.map_cons, List.nodup_cons] at nd
    obtain ⟨R', k'⟩ := rel_tups R nd.2 fun p hp => hl p (List.mem_cons_of_mem _ hp)
    have hn : tupH H r q.1 = none := by rw [tupH_off nd.1]; exact hl q List.mem_cons_self
    exact ⟨R'.newH hn _, k'.trans (keep_newH hn _ R')⟩
theorem rep_zip : ∀ {l : List (Addr × V × V)} {us ws : List V} {xs ys : List D}, l.map (·.2) = us.zip ws → RepL K H xs us → RepL K H ys ws → (∀ q ∈ l, H q.1 = some (.tup [q.2.1, q.2.2])) → RepL K H ((xs.zip ys).map fun q => D.tup [q.1, q.2]) (l.map fun q => V.ref q.1)
  | [], us, ws, xs, ys, e, r1, r2, _ => by
    cases r1 with
    | nil => exact .nil
    | cons _ _ => cases r2 with
      | nil => exact .nil
      | cons _ _ => simp at e
  | q :: r, us, ws, xs, ys, e, r1, r2, h => by
    cases r1 with
    | nil => simp at e
    | cons a1 t1 => cases r2 with
      | nil => simp at e
      | cons a2 t2 =>
        simp only [List.map_cons, List.zip_cons_cons, List.cons.injEq] at e
        have hq := h q List.mem_cons_self
        rw [e.1] at hq
        refine .cons (.tup (.inl (.inl hq)) (.cons a1 (.cons a2 .nil))) (rep_zip e.2 t1 t2 fun p hp => h p (List.mem_cons_of_mem _ hp))
end
section
variable {X : Cx} {cl : ClsT} {H0 : Hp} {C0 : CH} {ca : CTA}
/-- list(zip(x, y)) -/
def cLzip (a : CTA) : CTE := fun σ C Q => a σ C fun ds C1 => ∃ x y xs ys, ds = [x, y] ∧ SqC C1 x xs ∧ SqC C1 y ys ∧ ∀ l, C1 l = none → Q (.ref l) (cup C1 l (.lst ((xs.zip ys).map fun q => D.tup [q.1, q.2])))
theorem cpe_lzip {e1 e2 : Expr} {p p2 pos pos2 : Pos} (hc : X.calm = true) (hgl : Gl X "list") (hml : X.mg "list" = none) (hgz : Gl X "zip") (hmz : X.mg "zip" = none) (ha : CPA X cl H0 C0 [e1, e2] ca) (h1 : notStar e1 = true) (h2 : notStar e2 = true) :
    CPE X cl H0 C0 (.Call (.Name "list" p) [.Call (.Name "zip" p2) [e1, e2] [] pos2] [] pos) (cLzip ca) :=
  (pe_lzip hc hgl hml hgz hmz ha (star_of h1) (star_any (by simp [h2]))).imp fun σ H Q ⟨σc, C, Qc, S, h, hq⟩ => ⟨σc, C, _, S, h, fun ds C1 vs H1 ⟨x, y, xs, ys, eds, hx, hy, q⟩ rs R1 k1 => by
    subst eds
    cases rs with
    | cons r1 rr =>
      cases rr with
      | cons r2 rr =>
        cases rr
        obtain ⟨a, us, rfl, sa, ra⟩ := R1.sq hx r1
        obtain ⟨b, ws, rfl, sb, rb⟩ := R1.sq hy r2
        refine ⟨a, b, us, ws, rfl, sa, sb, fun S' l nd nS hS hl hz => ?_⟩
        obtain ⟨R2, k2⟩ := rel_tups R1 nd hl
        have hn : tupH H1 l S' = none := by rw [tupH_off nS]; exact hS
        exact ((hq.from_ k1).from_ k2).lst (rep_zip hz (ra.keep R1 k2) (rb.keep R1 k2) fun p hp => tupH_at nd hp) R2 hn (q S' (free_of R1 hS))⟩
end
end L3

namespace L3
open PySem L2 PySem.Spec PyProof.Rows
section
variable {X : Cx} {cl : ClsT} {H0 : Hp} {C0 : CH} {ca cb : CTE} {a b : Expr} {pos : Pos} {Ca fa : Addr} {fd : FuncData} {ps : List Str} {k c np : Nat} {sem : SemF} {g : List Src}
theorem cpe_eqO (hc : cl c = some Ca) (O : OwnE X.K Ca fa) (F : FnOkG X.prog X.w X.K X.mg X.base (L2.CX X.prog X.w) k fa fd ps (spC X.K cl np sem)) (hr : Room (k + 1) X.A) (hg : X.A.guards = some []) (hb : BindsC X.K fd ps 2 [] g) (hl : g.length = np) (ha : CPE X cl H0 C0 a ca) (hb' : CPE X cl H0 C0 b cb) (hm : behindInMarks .Eq b = false) :
    CPE X cl H0 C0 (.Compare a [.Eq] [b] pos) (cBin (oEqO c sem g id) ca cb) := by
  obtain ⟨gv, gV, b1, b2, b3⟩ := hb
  exact cpe_cmp (op_eqO O F (hr.mono (Nat.le_succ _)) hg (fun s us hk hl => by have := b1 s us [] hk hl rfl; simpa using this) b2) (lk_eqO hc (by simp only [gath, List.length_map]; exact hl) b3) ha hb' hm
theorem cpe_neO (hc : cl c = some Ca) (O : OwnE X.K Ca fa) (F : FnOkG X.prog X.w X.K X.mg X.base (L2.CX X.prog X.w) k fa fd ps (spC X.K cl np sem)) (hr : Room (k + 1) X.A) (hg : X.A.guards = some []) (hb : BindsC X.K fd ps 2 [] g) (hl : g.length = np) (ha : CPE X cl H0 C0 a ca) (hb' : CPE X cl H0 C0 b cb) (hm : behindInMarks .NotEq b = false) :
    CPE X cl H0 C0 (.Compare a [.NotEq] [b] pos) (cBin (oEqO c sem g not) ca cb) := by
  obtain ⟨gv, gV, b1, b2, b3⟩ := hb
  exact cpe_cmp (op_neO O F hr hg (fun s us hk hl => by have := b1 s us [] hk hl rfl; simpa using this) b2) (lk_eqO hc (by simp only [gath, List.length_map]; exact hl) b3) ha hb' hm
theorem cpt_eqO (hc : cl c = some Ca) (O : OwnE X.K Ca fa) (F : FnOkG X.prog X.w X.K X.mg X.base (L2.CX X.prog X.w) k fa fd ps (spC X.K cl np sem)) (hr : Room (k + 1) X.A) (hg : X.A.guards = some []) (hb : BindsC X.K fd ps 2 [] g) (hl : g.length = np) (ha : CPE X cl H0 C0 a ca) (hb' : CPE X cl H0 C0 b cb) (hm : behindInMarks .Eq b = false) :
    CPT X cl H0 C0 (.Compare a [.Eq] [b] pos) (cTst (cBin (oEqO c sem g id) ca cb)) := by
  obtain ⟨gv, gV, b1, b2, b3⟩ := hb
  exact cpt_cmp (op_eqO O F (hr.mono (Nat.le_succ _)) hg (fun s us hk hl => by have := b1 s us [] hk hl rfl; simpa using this) b2) (lk_eqO hc (by simp only [gath, List.length_map]; exact hl) b3) ha hb' hm
theorem cpt_neO (hc : cl c = some Ca) (O : OwnE X.K Ca fa) (F : FnOkG X.prog X.w X.K X.mg X.base (L2.CX X.prog X.w) k fa fd ps (spC X.K cl np sem)) (hr : Room (k + 1) X.A) (hg : X.A.guards = some []) (hb : BindsC X.K fd ps 2 [] g) (hl : g.length = np) (ha : CPE X cl H0 C0 a ca) (hb' : CPE X cl H0 C0 b cb) (hm : behindInMarks .NotEq b = false) :
    CPT X cl H0 C0 (.Compare a [.NotEq] [b] pos) (cTst (cBin (oEqO c sem g not) ca cb)) := by
  obtain ⟨gv, gV, b1, b2, b3⟩ := hb
  exact cpt_cmp (op_neO O F hr hg (fun s us hk hl => by have := b1 s us [] hk hl rfl; simpa using this) b2) (lk_eqO hc (by simp only [gath, List.length_map]; exact hl) b3) ha hb' hm
/-! len of an own instance -/
structure OwnL (K : PySem.W.Frag) (Ca f : Addr) : Prop where
  len : PySem.W.findIn K (.ref Ca) "__len__" = some (some (.ref f))
  fn : PySem.W.isFn K (.ref f) = true
def rLenO (Ca : Addr) (sp : Sp) (gV : List V → List V → List V) : List V → Hp → VK → Prop := fun xs H Q => ∃ a dx fs, xs = [.ref a] ∧ H a = some (.ins Ca dx fs) ∧ sp (gV [.ref a] []) H (fun v H' => ∃ n : Int, v = .int n ∧ 0 ≤ n ∧ n < 2 ^ 63 ∧ Q (.int n) H') fun _ _ _ => False
theorem call_lenO {sp : Sp} {gV : List V → List V → List V} {gv : List Value → List Value → List Value} (O : OwnL X.K Ca fa) (F : FnOkG X.prog X.w X.K X.mg X.base (L2.CX X.prog X.w) k fa fd ps sp) (hr : Room (k + 1) X.A) (hg : X.A.guards = some []) (hb : ∀ (s : Shared) (us : List Value), X.K.In s.heap → us.length = 1 → BindsTo s fd ⟨us, []⟩ (ps.zip (gv us [])))
    (hv : ∀ {vs us zs ws}, Vals vs us → Vals zs ws → Vals (gV vs zs) (gv us ws)) : CallR X (.builtin "len") (rLenO Ca sp gV) := by
  intro pins s σ H xs us Q I rs ⟨a, dx, fs, ex, ha, hs⟩
  subst ex
  cases rs with
  | cons r rr =>
    cases rr
    cases r
    obtain ⟨mA, J, _⟩ := ins_get I.hok ha
    obtain ⟨od, J, _⟩ := J.look
    obtain ⟨m, hF⟩ := I.fr
    refine PySem.W.len_K hF I.ok.mod.kin J O.len O.fn ?_
    have e0 : Env0 X.prog X.w X.K X.mg X.base X.A.in1 X.stack s H := by
      have e := I.env0
      exact ⟨e.frames, e.mod, e.bs, e.bsz, e.funs, e.frf, e.hok, e.bare⟩
    refine wpAny_call (codeAny_mono (F.run X.A.in1 X.stack s H ⟨[.ref a], []⟩ _ _ _ (fun _ _ _ => False) hr.in1 hg e0 (hb s _ I.kIn rfl) (hv (.cons (show RelV (V.ref a) (Value.ref a) from rfl) .nil) .nil) hs) fun r s' hq => ?_)
    match r, hq with
    | .error e, hq => obtain ⟨_, _, _, _, _, _, _, _, _, _, _, _, z⟩ := hq; exact z.elim
    | .ok (.ret u), hq =>
      obtain ⟨v, H', I', rv, n, ev, n0, n1, q⟩ := I.after hq
      subst ev
      obtain ⟨t, rfl⟩ := rv
      exact ⟨⟨n0, n1⟩, .int n, H', I'.tok _, ⟨_, rfl⟩, q⟩
def oLenO (c : Nat) (sem : SemF) (g : List Src) : OL := fun xs C Q => ∃ p fs, xs = [.ref p] ∧ C p = some (.ins c fs) ∧ sem (gath g [.ref p] []) C (fun d C' => ∃ n : Int, d = .int n ∧ 0 ≤ n ∧ n < 2 ^ 63 ∧ Q (.int n) C') fun _ _ => False
theorem lk_lenO {gV : List V → List V → List V} (hc : cl c = some Ca) (hl : g.length = np) (b3 : ∀ H ds vs es zs, ds.length = 1 → es.length = 0 → RepL X.K H ds vs → RepL X.K H es zs → RepL X.K H (gath g ds es) (gV vs zs)) : LkL X.K cl (rLenO Ca (spC X.K cl np sem) gV) (oLenO c sem g) :=
  fun H C ds vs Q Qc rs R ⟨p, fs, e1, h1, h3⟩ hq => by
    subst e1
    cases rs with
    | cons r rr =>
      cases rr
      cases r
      obtain ⟨Ca1, dx, fv, hc1, g1, _⟩ := R p _ h1
      rw [hc] at hc1
      cases hc1
      refine ⟨p, dx, fv, rfl, g1, _, C, _, _, b3 H [.ref p] _ [] _ rfl rfl (.cons (.ref p) .nil) .nil, ?_, R, h3, ?_, fun _ _ _ _ _ z => z.elim⟩
      · simp only [gath, List.length_map]; exact hl
      · intro d' C' v' H' ⟨n, et, n0, n1, qt⟩ rv R' kk
        subst et
        cases rv
        exact ⟨n, rfl, n0, n1, hq _ _ _ _ qt (.int _) R' kk⟩
theorem cpe_lenO {p : Pos} {cs : CTA} (hc : cl c = some Ca) (O : OwnL X.K Ca fa) (F : FnOkG X.prog X.w X.K X.mg X.base (L2.CX X.prog X.w) k fa fd ps (spC X.K cl np sem)) (hr : Room (k + 1) X.A) (hg : X.A.guards = some []) (hb : BindsC X.K fd ps 1 [] g) (hl : g.length = np) (hgl : Gl X "len") (hml : X.mg "len" = none) (ha : CPA X cl H0 C0 [a] cs) (h1 : notStar a = true) :
    CPE X cl H0 C0 (.Call (.Name "len" p) [a] [] pos) (cList (oLenO c sem g) cs) := by
  obtain ⟨gv, gV, b1, b2, b3⟩ := hb
  exact cpe_callB (call_lenO O F hr hg (fun s us hk hl => by have := b1 s us [] hk hl rfl; simpa using this) b2) (lk_lenO hc hl b3) hgl hml (by decide +kernel) ha (by decide) (by decide +kernel) (star_of h1) rfl
/-- raise X(e) of an own class without __init__ -/
def sRaiseE (c : Nat) (ex : Kxs) (a : CTE) : CTS := fun _ σ C => a σ C fun _ C1 => ex ⟨c, []⟩ σ C1
theorem cps_raiseE {ex : Kxs} {bmB : List Value} {B newId initId : String} {x : Str} {p pos' : Pos} (hc : cl c = some Ca) (F : ExcBaseFacts B newId initId bmB) (q : PySem.W.excIn X.K Ca bmB newId = true) (gC : X.mg x = some (.ref Ca)) (kC : PySem.W.keepIn X.K (.ref Ca) = true) (r : Raises X (.ref Ca)) (hg : Gl X x)
    (hdb : (x == ("__debug__" : Str)) = false) (hcalm : X.calm = true) (tk : Takes X (WC X.K cl H0 C0 ex)) (ha : CPE X cl H0 C0 a ca) (h1 : notStar a = true) : CPS X cl H0 C0 (.Raise (some (.Call (.Name x p) [a] [] pos')) none pos) (sRaiseE c ex ca) :=
  (ps_raise hcalm tk (SkE.pmk_own1 F q gC kC r hg ha (star_of h1) hdb)).imp fun D σ H ⟨σc, C, Dc, S, h, hq⟩ => ⟨σc, C, _, S, h, fun d C1 v H1 h1 rv R1 k1 => ⟨_, σc, C1, h1, ⟨Ca, hc, rfl, .inl ⟨rfl, rfl⟩⟩, S.step k1 R1⟩⟩
end
end L3

set_option maxHeartbeats 1000000
/-! enumerate(list or tuple), range of three, reversed(list or tuple), as what a loop walks -/
namespace L3E
open PySem PySem.Spec PyProof.Rows L2
theorem meets_enum1 {v : Value} {o : Obj} {H : Heap → Prop} (B : Begins v o H) :
    Meets (Builtin.«enumerate.__new__» ⟨[.type "enumerate", v], []⟩) (fun _ R s => H s.heap ∧
      R (.ok (.ret (.ref (s.heap.push o).objs.size))) { s with heap := (s.heap.push o).push { cls := .type "enumerate", data := .fields #[.none, .bool false, .ref s.heap.objs.size, rawInt 0, .none, .none] } }) :=
  .of_wp fun prog w A R s h => by
    obtain ⟨hp, g, d, tk, os⟩ := s; obtain ⟨h1, h⟩ := h
    have hsub := sub_enumerate
    have q1 : ∀ {A' : Around} {E : Value → Shared → Prop} {Q : Value → Shared → Prop}, Q (.ref hp.objs.size) ⟨hp.push o, g, d, tk, os⟩ → wpAny (model prog w) A' (pyIter v) Q E ⟨hp, g, d, tk, os⟩ :=
      fun q => B.iter prog w _ _ ⟨hp, g, d, tk, os⟩ _ h1 q
    wp_walk using q1
    refine wpAny_stack_any fun st => wpAny_pure ?_
    split
    · rename_i c _ _ _ _ _
      cases (c == Value.type "enumerate")
      · wp_walk using q1
        exact ⟨_, rfl, h⟩
      · wp_walk using q1
        exact ⟨_, rfl, h⟩
    · wp_walk using q1
      exact ⟨_, rfl, h⟩
section
variable {prog : Program} {w : World} {A : Around} {E : Value → Shared → Prop} {s : Shared}
theorem enum_begins1 {v : Value} {o : Obj} {H : Heap → Prop} {Q : Value → Shared → Prop} (B : Begins v o H) (h1 : H s.heap)
    (h : ∀ h', IsEnum h' (s.heap.objs.size + 1) s.heap.objs.size 0 .none → h'.get? s.heap.objs.size = some o → h'.objs.size = s.heap.objs.size + 2 →
      (∀ b o, s.heap.get? b = some o → h'.get? b = some o) → Q (.ref (s.heap.objs.size + 1)) { s with heap := h' }) :
    wpAny (model prog w) A (call (.type "enumerate") [v]) Q E s := by
  refine callType_new F.called_enumerate (by decide) (F.typeCall_enumerate_1 _) (F.newCall_enumerate_1 _) (fun obj => F.args_object_init_2 obj _) F.entry_enumerate_new
    (meets_enum1 B) ⟨h1, ?_⟩
  have hz : (s.heap.push o).objs.size = s.heap.objs.size + 1 := Heap.size_push ..
  show _ ∧ _
  rw [hz]
  have he : IsEnum ((s.heap.push o).push { cls := .type "enumerate", data := .fields #[.none, .bool false, .ref s.heap.objs.size, rawInt 0, .none, .none] }) (s.heap.objs.size + 1) s.heap.objs.size 0 .none := by
    have := Heap.get?_push_size (s.heap.push o) (o := { cls := .type "enumerate", data := .fields #[.none, .bool false, .ref s.heap.objs.size, rawInt 0, .none, .none] }) rfl
    rw [hz] at this; exact this
  refine ⟨⟨_, he, rfl⟩, h _ he (Heap.get?_push_of_some _ (Heap.get?_push_size _ B.free)) (by rw [Heap.size_push, hz]) fun b o x => Heap.get?_push_of_some _ (Heap.get?_push_of_some _ x)⟩
end
/-- the tuple at a, each item in a new pair -/
def IteT (K : PySem.W.Frag) (a : Addr) : It :=
  ⟨fun i H => ∃ (xs : List V) (x : V), SqT K H a xs ∧ xs[i]? = some x, fun i H v H' => ∃ T x, v = .ref T ∧ H T = none ∧ H' = upd H T (.tup [.int (i : Nat), x]) ∧ ∀ xs, SqT K H a xs → xs[i]? = some x, fun i H => ∃ xs : List V, SqT K H a xs ∧ xs.length ≤ i⟩
theorem turn_enumT {P : Program} {w : World} {K : PySem.W.Frag} {elts : List Expr} {kk : Nat} {tpos : Pos} (a e it : Addr) :
    Turn P w K (.Tuple elts kk tpos) (IteT K a) [e, it] e (fun i h => (∃ old, IsEnum h e it ((i : Nat) : Int) old) ∧ h.IsTupleIter it a i ∧ e ≠ it ∧ a ≠ it ∧ a ≠ e ∧ i ≤ sizeLine) where
  mem := by simp
  obj := fun i h st b hb => by
    obtain ⟨⟨old, he⟩, ⟨o, ho, hc, hd⟩, _⟩ := st
    have e' : b = e ∨ b = it := by simpa using hb
    rcases e' with z | z
    · rw [z]; exact ⟨_, he, fun v q => nomatch q⟩
    · rw [z]; exact ⟨o, ho, fun v q => by rw [hd] at q; cases q⟩
  keep := fun i h h' st k => let ⟨⟨old, he⟩, hi, hne⟩ := st; ⟨⟨old, k e (by simp) _ he⟩, hi.at fun o q => k it (by simp) o q, hne⟩
  item := by
    intro X hP hw hK hc i pins s σ H E I hf st hg
    subst hP hw hK
    obtain ⟨⟨old, he⟩, hit, hne, hat, hae, hi⟩ := st
    obtain ⟨xs, x, hq, hx⟩ := hg
    obtain ⟨its, rv, p, hz⟩ := I.tuple hq
    obtain ⟨u, hu, ru⟩ := rv.get hx
    have hel : e < s.heap.objs.size := Heap.lt_size he
    have hil : it < s.heap.objs.size := by obtain ⟨_, q, _⟩ := hit; exact Heap.lt_size q
    have hil' : i < its.length := (List.getElem?_eq_some_iff.mp hu).1
    refine wpAny_pyNext_enum_itemD (n := its.toArray.size) (Draws.tuple (A := X.A.in1) (I.ok.hd hc) it a hat its.toArray) he ⟨hit, p⟩ (by simpa using hil') hne (by simp [hne, Ne.symm hae]) fun y h' tk hy ho hit' hT hsz hk => ?_
    have hyu : y = u := by
      have hy' : its[i]? = some y := by simpa using hy
      rw [hu] at hy'; cases hy'; rfl
    subst hyu
    refine ⟨_, rfl, wpAny_letOwnedTupleGo_enum (s := { s with heap := h', toks := tk + 1 }) ho fun h'' he' sb => ?_⟩
    have hT2 : h''.get? s.heap.objs.size = some { cls := .type "tuple", data := .seq #[.int i tk, y] } := (sb.2 _ (Nat.ne_of_gt hel)).trans hT
    have new : ObjOk X.prog X.w (upd H s.heap.objs.size (.tup [.int (i : Nat), x])) h'' s.heap.objs.size (.tup [.int (i : Nat), x]) :=
      ⟨by show 2 ≤ sizeLine; decide, [.int i tk, y], .cons ⟨_, rfl⟩ (.cons ru .nil), ⟨_, hT2, rfl, _, rfl⟩⟩
    have I1 : Inv X pins σ (upd H s.heap.objs.size (.tup [.int (i : Nat), x])) { s with heap := h'', toks := tk + 1 } :=
      I.turnedNew (ch := [e, it]) (fun b ob hb q => (sb.2 b (fun z => hb (by simp [z]))).trans (hk b ob (fun z => hb (by simp [z])) (fun z => hb (by simp [z])) q)) hf (Nat.le_refl _) new
    have hlen := rv.length
    refine ⟨.ref s.heap.objs.size, _, I1, rfl, ⟨_, x, rfl, I.hok.fresh (Nat.le_refl _), rfl, fun ys hy => by rw [I.tuple_inj hy hq]; exact hx⟩, ⟨⟨y, ?_⟩, hit'.1.at fun o q => (sb.2 it (Ne.symm hne)).trans q, hne, hat, hae, by omega⟩, fun b hb => ?_⟩
    · have e1 : ((i + 1 : Nat) : Int) = (i : Int) + 1 := by omega
      rw [e1]; exact he'
    · have hb' : b < s.heap.objs.size := by
        have e' : b = e ∨ b = it := by simpa using hb
        rcases e' with z | z
        · rw [z]; exact hel
        · rw [z]; exact hil
      rw [upd_ne (Nat.ne_of_lt hb')]
      exact (hf b hb).1
  done := by
    intro X hP hw hK hc i pins s σ H E I hf st hg
    subst hP hw hK
    obtain ⟨⟨old, he⟩, hit, hne, hat, hae, hi⟩ := st
    obtain ⟨xs, hq, hx⟩ := hg
    obtain ⟨its, rv, p, hz⟩ := I.tuple hq
    obtain ⟨f0, f1, f2, f3, f4, f5⟩ := hf it (by simp)
    have hl := rv.length
    have D : Draws X.prog X.w X.A.in1 it [it, a] i (fun _ _ => True) (fun j h => j = i ∧ h.IsTupleIter it a i ∧ h.IsTuple a its.toArray) :=
      { live := fun _ _ st => let ⟨_, ⟨o, ho, _⟩, _⟩ := st; ⟨o, ho⟩
        frame := fun _ _ _ st hk => ⟨st.1, st.2.1.at fun o e => hk it (by simp) o e, st.2.2.at fun o e => hk a (by simp) o e⟩
        item := fun j s' Q E' hj st' hQ => absurd st'.1 (Nat.ne_of_lt hj)
        done := fun s' Q E' st' hE => PySem.wpAny_nextOf_tuple_end (I.ok.hd hc) st'.2.1 st'.2.2 (by simp; omega) hE }
    exact wpAny_pyNext_enum_endD D he ⟨rfl, hit, p⟩ fun h' eb => ⟨rfl, I.turned (t' := s.toks) (fun b o hb q => eb b o hb q) f0 f1 f3 f4 f5⟩
  self := fun A i s Q E st h => let ⟨⟨_, he⟩, _⟩ := st; wpAny_pyIter_enum he h
def iEnumA (K : PySem.W.Frag) (ta : TA) : TI := fun σ H R => ta σ H fun vs H1 => ∃ a xs, vs = [.ref a] ∧ ((SqL K H1 a xs ∧ R (Ite K a) H1) ∨ (SqT K H1 a xs ∧ R (IteT K a) H1))
theorem pi_enumA {X : Cx} {e : Expr} {ta : TA} {p pos tpos : Pos} {elts : List Expr} {kk : Nat} (hg : Gl X "enumerate") (hm : X.mg "enumerate" = none) (ha : PA X [e] ta) (hs : starEach [e] X.env = [(false, eval e X.env)] := by rfl) :
    PI X (.Tuple elts kk tpos) (.Call (.Name "enumerate" p) [e] [] pos) (iEnumA X.K ta) := by
  refine ⟨fun pins s σ H R I h => ?_⟩
  refine Call_ (ld_blt I hg hm boot_enumerate (PyProof.Rows.callWith_type1 (thn (ha.run pos pins s σ H _ I h) fun us s1 ⟨vs, H1, I1, r1, q1⟩ => ?_) hs rfl))
  obtain ⟨a, xs, ex, hq⟩ := q1
  subst ex
  cases r1 with
  | cons r rr =>
    cases rr
    cases r
    have fp : ∀ b ∈ [s1.heap.objs.size + 1, s1.heap.objs.size], FpOk X pins H1 b := fun b hb => by
      have e' : b = s1.heap.objs.size + 1 ∨ b = s1.heap.objs.size := by simpa using hb
      have hle : s1.heap.objs.size ≤ b := by
        rcases e' with z | z
        · rw [z]; exact Nat.le_add_right _ _
        · rw [z]; exact Nat.le_refl _
      exact I1.fpOk hle (I1.hok.fresh hle)
    rcases hq with ⟨hq, q⟩ | ⟨hq, q⟩
    · obtain ⟨its, rv, p', hz⟩ := I1.list hq
      refine call_enumerate_list p'.isList fun h' he hit hsz hk => wpAny_pyIter_enum he ?_
      have I2 : Inv X pins σ H1 { s1 with heap := h' } := I1.kept (t' := s1.toks) hk
      exact ⟨s1.heap.objs.size + 1, [s1.heap.objs.size + 1, s1.heap.objs.size], _, _, H1, rfl, I2, turn_enum a (s1.heap.objs.size + 1) s1.heap.objs.size, ⟨⟨.none, he⟩, hit, Nat.succ_ne_self _⟩, fp, q⟩
    · obtain ⟨its, rv, p', hz⟩ := I1.tuple hq
      have p2 : s1.heap.IsTuple a its.toArray := p'
      have hal : a < s1.heap.objs.size := by obtain ⟨_, z, _⟩ := p2; exact Heap.lt_size z
      refine enum_begins1 (begins_tuple a its.toArray) p2 fun h' he hit hsz hk => wpAny_pyIter_enum he ?_
      have I2 : Inv X pins σ H1 { s1 with heap := h' } := I1.kept (t' := s1.toks) hk
      exact ⟨s1.heap.objs.size + 1, [s1.heap.objs.size + 1, s1.heap.objs.size], _, _, H1, rfl, I2, turn_enumT a (s1.heap.objs.size + 1) s1.heap.objs.size,
        ⟨⟨.none, he⟩, ⟨_, hit, rfl, rfl⟩, Nat.succ_ne_self _, Nat.ne_of_lt hal, Nat.ne_of_lt (Nat.lt_succ_of_lt hal), Nat.zero_le _⟩, fp, q⟩
end L3E
namespace L3
open PySem PySem.Spec PyProof.Rows L2
section
variable {X : Cx} {cl : ClsT} {H0 : Hp} {C0 : CH} {pos : Pos}
/-- the items with their numbers -/
def enuD (ds : List D) : List D := ds.zipIdx.map fun p => .tup [.int (p.2 : Nat), p.1]
theorem enuD_at {ds : List D} {i : Nat} {d : D} (h : (enuD ds)[i]? = some d) : ∃ x, ds[i]? = some x ∧ d = .tup [.int (i : Nat), x] := by
  unfold enuD at h
  rw [List.getElem?_map, List.getElem?_zipIdx] at h
  cases e : ds[i]? with
  | none => rw [e] at h; cases h
  | some x => rw [e] at h; simp at h; exact ⟨x, rfl, h.symm⟩
theorem enuD_len (ds : List D) : (enuD ds).length = ds.length := by simp [enuD]
def iEnu (a : CTE) : CTI := fun σ C R => a σ C fun d C1 => ∃ ds, ((d = .tup ds ∨ d = .rls ds) ∧ R (enuD ds) (fun _ => True) C1) ∨ (∃ p, d = .ref p ∧ LsC C1 p ds ∧ R (enuD ds) (fun C => LsC C p ds) C1)
def iRvs (a : CTE) : CTI := fun σ C R => a σ C fun d C1 => ∃ ds, ((d = .tup ds ∨ d = .rls ds) ∧ R ds.reverse (fun _ => True) C1) ∨ (∃ p, d = .ref p ∧ LsC C1 p ds ∧ R ds.reverse (fun C => LsC C p ds) C1)
def stpD (i c : Int) (n : Nat) : List D := (List.range n).map fun (k : Nat) => .int (i + k * c)
def iRg3 (a : CTA) : CTI := fun σ C R => a σ C fun ds C1 => ∃ (i j c : Int) (n : Nat), ds = [.int i, .int j, .int c] ∧ RgC i j c n ∧ R (stpD i c n) (fun _ => True) C1
theorem enu_yld {K : PySem.W.Frag} {cl : ClsT} {H' H'' : Hp} {C' : CH} {T : Addr} {i : Nat} {y : V} {x : D} (R' : Rel K cl H' C') (hT : H' T = none) (e : H'' = upd H' T (.tup [.int (i : Nat), y])) (r : Rep K H' x y) :
    Rep K H'' (.tup [.int (i : Nat), x]) (.ref T) ∧ Rel K cl H'' C' ∧ Keep H' C' H'' C' := by
  subst e
  exact ⟨.tup (.inl (.inl upd_same)) (.cons (.int _) (.cons (r.keep R' (keep_newH hT _ R')) .nil)), R'.newH hT _, keep_newH hT _ R'⟩
theorem itOk_enuT {K : PySem.W.Frag} {a : Addr} {ds : List D} {vs : List V} {H : Hp} {C : CH} (s : SqT K H a vs) (r : RepL K H ds vs) (R : Rel K cl H C) : ItOk K cl H C (L3E.IteT K a) (enuD ds) (fun _ => True) where
  go := fun i H' C' k R' _ hi => by
    rw [enuD_len] at hi
    obtain ⟨v, e, _⟩ := r.get (List.getElem?_eq_getElem hi)
    exact ⟨vs, v, SqT.keep R k s, e⟩
  yld := fun i H' C' x H'' k R' _ ⟨T, y, ev, hT, eH, hy⟩ d hd => by
    obtain ⟨x0, hx0, rfl⟩ := enuD_at hd
    obtain ⟨v, e, rv⟩ := r.get hx0
    have := hy vs (SqT.keep R k s)
    rw [e] at this; cases this
    subst ev
    exact enu_yld R' hT eH (rv.keep R k)
  stop := fun i H' C' k R' _ hi => ⟨vs, SqT.keep R k s, by rw [← r.length, ← enuD_len]; exact hi⟩
theorem itOk_enuR {X : Cx} {H : Hp} {C : CH} {a : Addr} {ds : List D} {vs : List V} (q : RlS X.K H a vs) (r : RepL X.K H ds vs) (R : Rel X.K cl H C) : ItOk X.K cl H C (Ite X.K a) (enuD ds) (fun _ => True) where
  go := fun i H' C' k R' _ hi => by
    rw [enuD_len] at hi
    obtain ⟨v, e, _⟩ := r.get (List.getElem?_eq_getElem hi)
    exact ⟨vs, v, (q.keep R k).sq, e⟩
  yld := fun i H' C' x H'' k R' _ ⟨T, y, ev, hT, eH, hy⟩ d hd => by
    obtain ⟨x0, hx0, rfl⟩ := enuD_at hd
    obtain ⟨v, e, rv⟩ := r.get hx0
    have := hy vs (q.keep R k).sq
    rw [e] at this; cases this
    subst ev
    exact enu_yld R' hT eH (rv.keep R k)
  stop := fun i H' C' k R' _ hi => ⟨vs, (q.keep R k).sq, by rw [← r.length, ← enuD_len]; exact hi⟩
theorem itOk_enuL {K : PySem.W.Frag} {p : Addr} {ds : List D} {H : Hp} {C : CH} : ItOk K cl H C (Ite K p) (enuD ds) (fun C => LsC C p ds) where
  go := fun i H' C' k R' hG hi => by
    rw [enuD_len] at hi
    obtain ⟨vs, s, r⟩ := R'.ls hG
    obtain ⟨v, e, _⟩ := r.get (List.getElem?_eq_getElem hi)
    exact ⟨vs, v, s, e⟩
  yld := fun i H' C' x H'' k R' hG ⟨T, y, ev, hT, eH, hy⟩ d hd => by
    obtain ⟨x0, hx0, rfl⟩ := enuD_at hd
    obtain ⟨vs, s, r⟩ := R'.ls hG
    obtain ⟨v, e, rv⟩ := r.get hx0
    have := hy vs s
    rw [e] at this; cases this
    subst ev
    exact enu_yld R' hT eH rv
  stop := fun i H' C' k R' hG hi => by
    obtain ⟨vs, s, r⟩ := R'.ls hG
    exact ⟨vs, s, by rw [← r.length, ← enuD_len]; exact hi⟩
def kEnu (R : List D → (CH → Prop) → CH → Prop) : List D → CH → Prop := fun ds C1 => match ds with
  | [d] => ∃ ys, ((d = .tup ys ∨ d = .rls ys) ∧ R (enuD ys) (fun _ => True) C1) ∨ (∃ p, d = .ref p ∧ LsC C1 p ys ∧ R (enuD ys) (fun C => LsC C p ys) C1)
  | _ => False
theorem cpi_enu {e : Expr} {ca : CTE} {p cpos tpos : Pos} {elts : List Expr} {kk : Nat} (hg : Gl X "enumerate") (hm : X.mg "enumerate" = none) (he : CPE X cl H0 C0 e ca) (hs : starEach [e] X.env = [(false, eval e X.env)]) :
    CPI X cl H0 C0 (.Tuple elts kk tpos) (.Call (.Name "enumerate" p) [e] [] cpos) (iEnu ca) :=
  (L3E.pi_enumA hg hm (cpa_cons he cpa_nil hs) hs).imp fun σ H R ⟨σc, C, Qc, S, h, hq⟩ => ⟨σc, C, _, S, (show cCons ca cNil σc C (kEnu Qc) from h), fun ds C1 vs H1 h1 rs R1 k1 => by
    match ds, h1, rs with
    | [], h1, _ => exact h1.elim
    | _ :: _ :: _, h1, _ => exact h1.elim
    | [d], ⟨ys, h2⟩, rs =>
    obtain ⟨v, rfl, r⟩ := rs.one
    rcases h2 with ⟨rfl | rfl, q⟩ | ⟨p, rfl, hl, q⟩
    · cases r with
      | tup sq rr => exact ⟨_, _, rfl, .inr ⟨sq, hq _ _ _ _ _ q R1 k1 (itOk_enuT sq rr R1)⟩⟩
    · cases r with
      | rls sq rr => exact ⟨_, _, rfl, .inl ⟨sq.sq, hq _ _ _ _ _ q R1 k1 (itOk_enuR sq rr R1)⟩⟩
    · cases r
      obtain ⟨vs, sq, rr⟩ := R1.ls hl
      exact ⟨_, _, rfl, .inl ⟨sq, hq _ _ _ _ _ q R1 k1 itOk_enuL⟩⟩⟩
theorem rev_at {ds : List D} {i : Nat} {d : D} (h : ds.reverse[i]? = some d) : ds[ds.length - 1 - i]? = some d := by
  by_cases hi : i < ds.length
  · rw [List.getElem?_reverse hi] at h; exact h
  · rw [List.getElem?_eq_none (by rw [List.length_reverse]; omega)] at h; cases h
theorem itOk_rvT {K : PySem.W.Frag} {a : Addr} {ds : List D} {vs : List V} {H : Hp} {C : CH} (s : SqT K H a vs) (r : RepL K H ds vs) (R : Rel K cl H C) : ItOk K cl H C (RT.ItvT K a vs.length) ds.reverse (fun _ => True) where
  go := fun i H' C' k R' _ hi => by
    rw [List.length_reverse] at hi
    have hl := r.length
    obtain ⟨v, e, _⟩ := r.get (List.getElem?_eq_getElem (show ds.length - 1 - i < ds.length by omega))
    exact ⟨by omega, vs, v, SqT.keep R k s, by rw [← hl]; exact e⟩
  yld := fun i H' C' x H'' k R' _ ⟨e, y⟩ d hd => by
    subst e
    obtain ⟨v, e, rv⟩ := r.get (rev_at hd)
    have := y vs (SqT.keep R k s)
    rw [← r.length, e] at this; cases this
    exact ⟨rv.keep R k, R', Keep.refl⟩
  stop := fun i H' C' k R' _ hi => by
    show vs.length ≤ i
    rw [← r.length]; simpa using hi
theorem itOk_rvR {X : Cx} {H : Hp} {C : CH} {a : Addr} {ds : List D} {vs : List V} (q : RlS X.K H a vs) (r : RepL X.K H ds vs) (R : Rel X.K cl H C) : ItOk X.K cl H C (Itv X.K a vs.length) ds.reverse (fun _ => True) where
  go := fun i H' C' k R' _ hi => by
    rw [List.length_reverse] at hi
    have hl := r.length
    obtain ⟨v, e, _⟩ := r.get (List.getElem?_eq_getElem (show ds.length - 1 - i < ds.length by omega))
    exact ⟨by omega, vs, v, (q.keep R k).sq, by rw [← hl]; exact e⟩
  yld := fun i H' C' x H'' k R' _ ⟨e, y⟩ d hd => by
    subst e
    obtain ⟨v, e, rv⟩ := r.get (rev_at hd)
    have := y vs (q.keep R k).sq
    rw [← r.length, e] at this; cases this
    exact ⟨rv.keep R k, R', Keep.refl⟩
  stop := fun i H' C' k R' _ hi => by
    show vs.length ≤ i
    rw [← r.length]; simpa using hi
theorem itOk_rvL {K : PySem.W.Frag} {p : Addr} {ds : List D} {H : Hp} {C : CH} : ItOk K cl H C (Itv K p ds.length) ds.reverse (fun C => LsC C p ds) where
  go := fun i H' C' k R' hG hi => by
    rw [List.length_reverse] at hi
    obtain ⟨vs, s, r⟩ := R'.ls hG
    obtain ⟨v, e, _⟩ := r.get (List.getElem?_eq_getElem (show ds.length - 1 - i < ds.length by omega))
    exact ⟨by omega, vs, v, s, e⟩
  yld := fun i H' C' x H'' k R' hG ⟨e, y⟩ d hd => by
    subst e
    obtain ⟨vs, s, r⟩ := R'.ls hG
    obtain ⟨v, e, rv⟩ := r.get (rev_at hd)
    have := y vs s
    rw [e] at this; cases this
    exact ⟨rv, R', Keep.refl⟩
  stop := fun i H' C' k R' hG hi => by
    show ds.length ≤ i
    simpa using hi
theorem cpi_rvs {tg e : Expr} {ca : CTE} {p cpos : Pos} (hg : Gl X "reversed") (hm : X.mg "reversed" = none) (he : CPE X cl H0 C0 e ca) (hs : starEach [e] X.env = [(false, eval e X.env)]) :
    CPI X cl H0 C0 tg (.Call (.Name "reversed" p) [e] [] cpos) (iRvs ca) :=
  (RT.pi_revA hg hm he hs).imp fun σ H R ⟨σc, C, Qc, S, h, hq⟩ => ⟨σc, C, _, S, h, fun d C1 v H1 ⟨ys, h2⟩ r R1 k1 => by
    rcases h2 with ⟨rfl | rfl, q⟩ | ⟨p, rfl, hl, q⟩
    · cases r with
      | tup sq rr => exact ⟨_, _, rfl, .inr ⟨sq, hq _ _ _ _ _ q R1 k1 (itOk_rvT sq rr R1)⟩⟩
    · cases r with
      | rls sq rr => exact ⟨_, _, rfl, .inl ⟨sq.sq, hq _ _ _ _ _ q R1 k1 (itOk_rvR sq rr R1)⟩⟩
    · cases r
      obtain ⟨vs, sq, rr⟩ := R1.ls hl
      exact ⟨_, _, rfl, .inl ⟨sq, hq _ _ _ _ _ q R1 k1 (by rw [← rr.length]; exact itOk_rvL)⟩⟩⟩
theorem stpD_at {i c : Int} {n k : Nat} {d : D} (h : (stpD i c n)[k]? = some d) : d = .int (i + k * c) := by
  unfold stpD at h
  rw [List.getElem?_map] at h
  cases q : (List.range n)[k]? with
  | none => rw [q] at h; cases h
  | some j =>
    rw [q] at h
    obtain ⟨hl, e⟩ := List.getElem?_eq_some_iff.mp q
    rw [List.getElem_range] at e
    subst e
    cases h; rfl
theorem itOk_stp {K : PySem.W.Frag} {lo c : Int} {n : Nat} {H : Hp} {C : CH} : ItOk K cl H C (Itc lo c n) (stpD lo c n) (fun _ => True) where
  go := fun i H' C' k R' _ hi => by
    show i < n
    simpa [stpD] using hi
  yld := fun i H' C' x H'' k R' _ ⟨e, y⟩ d hd => by
    subst e; subst y
    rw [stpD_at hd]
    exact ⟨.int _, R', Keep.refl⟩
  stop := fun i H' C' k R' _ hi => by
    show n ≤ i
    simpa [stpD] using hi
theorem cpi_rg3 {tg a b c : Expr} {ca : CTA} {p cpos : Pos} (hg : Gl X "range") (hm : X.mg "range" = none) (ha : CPA X cl H0 C0 [a, b, c] ca) (hs : starEach [a, b, c] X.env = (false, eval a X.env) :: starEach [b, c] X.env)
    (hpl : (backTo cpos (starEach [b, c] X.env)).any (·.1) = false) : CPI X cl H0 C0 tg (.Call (.Name "range" p) [a, b, c] [] cpos) (iRg3 ca) :=
  (pi_range3 hg hm ha hs hpl).imp fun σ H R ⟨σc, C, Qc, S, h, hq⟩ => ⟨σc, C, _, S, h, fun ds C1 vs H1 ⟨i, j, k, n, h1, h2, q⟩ rs R1 k1 => by
    subst h1
    cases rs with
    | cons r rs => cases rs with
      | cons r' rs => cases rs with
        | cons r'' rs =>
          cases rs; cases r; cases r'; cases r''
          exact ⟨i, j, k, n, rfl, h2, hq _ _ _ _ _ q R1 k1 itOk_stp⟩⟩
end
end L3

set_option maxHeartbeats 1000000
/-! sorted(set(a tuple of ints)) -/
namespace L3E
open PySem PySem.Spec PyProof.Rows L2
section
variable {X : Cx}
def rSetTI (K : PySem.W.Frag) (w : World) : List V → Hp → VK → Prop := fun vs H Q => ∃ (l : Addr) (ns : List Int), vs = [.ref l] ∧ SqT K H l (ns.map V.int) ∧ ns.length < 64 ∧
  ∀ (p : Addr) (c : Nat), H p = none → c ≤ ns.length → Q (.ref p) (upd H p (SetO w p (fun j => decide (j ∈ ns)) c))
theorem cr_setTI (hc : X.calm = true) : CallR X (.type "set") (rSetTI X.K X.w) := by
  intro pins s σ H vs us Q I r h
  obtain ⟨l, ns, rfl, hq, hl, q⟩ := h
  rw [Vals.ref1 r]
  obtain ⟨its, rv, pt, hz⟩ := I.tuple hq
  have hi : IntsAre its.toArray.toList ns := ints_of_vals rv
  refine call_set_tupI ns (I.ok.hd hc) (show s.heap.IsTuple l its.toArray from pt) hi (by unfold scanBound; omega) fun h' tk c R1 hcn k => ?_
  have hn : H s.heap.objs.size = none := I.hok.fresh (Nat.le_refl _)
  have J : Inv X pins σ (upd H s.heap.objs.size (SetO X.w s.heap.objs.size (fun j => decide (j ∈ ns)) c)) { s with heap := h', gens := s.gens, drawn := s.drawn, toks := tk } :=
    I.call (ch := []) (Un.laid k (Nat.le_refl _) hn) (I.hok.laid k (Nat.le_refl _) (setO_new R1)) I.bare (fun _ z => nomatch z)
  exact ⟨.ref _, _, J, rfl, q _ c hn hcn⟩
end
end L3E
namespace L3
open PySem PySem.Spec PyProof.Rows L2
section
variable {X : Cx} {cl : ClsT} {H0 : Hp} {C0 : CH} {e : Expr} {ca : CTE}
def cSrt (a : CTE) : CTE := fun σ C Q => a σ C fun d C1 => ∃ ns : List Int, d = .tup (ns.map D.int) ∧ ns.length < 64 ∧ ∀ (ms : List Int) (p : Addr), ms.Pairwise (· < ·) → (∀ k, k ∈ ms ↔ k ∈ ns) → C1 p = none → Q (.ref p) (cup C1 p (.lst (ms.map D.int)))
theorem repL_intsV {K : PySem.W.Frag} {H : Hp} : ∀ {ns : List Int} {vs : List V}, RepL K H (ns.map D.int) vs → vs = ns.map V.int
  | [], _, .nil => rfl
  | n :: ns, _, .cons h r => by cases h; rw [repL_intsV r]; rfl
theorem repL_intV {K : PySem.W.Frag} {H : Hp} : ∀ (ns : List Int), RepL K H (ns.map D.int) (ns.map V.int)
  | [] => .nil
  | n :: ns => .cons (.int n) (repL_intV ns)
theorem cpe_srt {p p2 pos pos2 : Pos} (hc : X.calm = true) (hg : Gl X "sorted") (hm : X.mg "sorted" = none) (hg2 : Gl X "set") (hm2 : X.mg "set" = none) (he : CPE X cl H0 C0 e ca)
    (hs : starEach [e] X.env = [(false, eval e X.env)])
    (hs2 : starEach [.Call (.Name "set" p2) [e] [] pos2] X.env = [(false, eval (.Call (.Name "set" p2) [e] [] pos2) X.env)]) :
    CPE X cl H0 C0 (.Call (.Name "sorted" p) [.Call (.Name "set" p2) [e] [] pos2] [] pos) (cSrt ca) := by
  have h1 := pe_callTy (L3E.cr_setTI (X := X) hc) hg2 hm2 PyProof.Rows.boot_set (pa_cons he pa_nil hs) (pos := pos2) (p := p2) (he := hs)
  have h2 := pe_callB (cr_sortedSet (X := X) hc) hg hm PyProof.Rows.boot_sorted (pa_cons h1 pa_nil hs2) (pos := pos) (p := p) (he := hs2)
  refine h2.imp fun σ H Q ⟨σc, C, Qc, S, h, hq⟩ => ?_
  refine ⟨σc, C, _, S, h, fun d C1 v H1 ⟨ns, ed, hl, q⟩ rv R1 k1 => ?_⟩
  subst ed
  cases rv with
  | tup sq rr =>
    rw [repL_intsV rr] at sq
    refine ⟨_, ns, rfl, sq, hl, fun p0 c hp0 hcn => ?_⟩
    have R2 := R1.newH hp0 (SetO X.w p0 (fun j => decide (j ∈ ns)) c)
    refine ⟨p0, _, c, rfl, upd_same, by omega, fun ms p h1 h2 h3 hp => ?_⟩
    exact ((hq.from_ k1).from_ (keep_newH hp0 _ R1)).lst (repL_intV ms) R2 hp (q ms p h1 (fun k => (h2 k).trans decide_eq_true_iff) (free_of R2 hp))
end
end L3

/-! x | y by an own __or__; (e, *es) -/
namespace L3
open PySem L2 PySem.Spec PyProof.Rows
section
variable {X : Cx} {cl : ClsT} {H0 : Hp} {C0 : CH} {ca cb : CTE} {a b : Expr} {pos : Pos} {Ca fa : Addr} {fd : FuncData} {ps : List Str} {k c np : Nat} {sem : SemF} {g : List Src} {ex : Kxs}
/-- x | y: f of the class c answers, with an object -/
def cOrO (c : Nat) (sem : SemF) (np : Nat) (g : List Src) (ex : Kxs) (a b : CTE) : CTE := fun σ C Q => a σ C fun d C1 => b σ C1 fun e C2 => ∃ p q fs gs, d = .ref p ∧ e = .ref q ∧ C2 p = some (.ins c fs) ∧ C2 q = some (.ins c gs) ∧ (gath g [.ref p, .ref q] []).length = np ∧
  sem (gath g [.ref p, .ref q] []) C2 (fun v C' => ∃ r, v = .ref r ∧ Q v C') fun x C' => ex x σ C'
theorem cpe_orO (hc : cl c = some Ca) (hm : Meth X.K Ca "__or__" fa) (sf : PySem.W.selfFirst X.K Ca = true) (F : FnOkG X.prog X.w X.K X.mg X.base (L2.CX X.prog X.w) k fa fd ps (spC X.K cl np sem)) (hr : Room k X.A) (hgd : X.A.guards = some []) (hb : BindsC X.K fd ps 2 [] g) (tk : Takes X (WC X.K cl H0 C0 ex))
    (ha : CPE X cl H0 C0 a ca) (hb' : CPE X cl H0 C0 b cb) : CPE X cl H0 C0 (.BinOp a .BitOr b pos) (cOrO c sem np g ex ca cb) := by
  refine ⟨fun pins s σ H Q I ⟨σc, C, Qc, S, h, hq⟩ => ?_⟩
  obtain ⟨gv, gV, b1, b2, b3⟩ := hb
  refine wpAny_BinOp (thn (ha.run pins s σ H (fun v H1 => ∃ d C1, Rep X.K H1 d v ∧ Rel X.K cl H1 C1 ∧ Keep H C H1 C1 ∧ cb σc C1 fun e C2 => ∃ p q fs gs, d = .ref p ∧ e = .ref q ∧ C2 p = some (.ins c fs) ∧ C2 q = some (.ins c gs) ∧ (gath g [.ref p, .ref q] []).length = np ∧
      sem (gath g [.ref p, .ref q] []) C2 (fun v C' => ∃ r, v = .ref r ∧ Qc v C') fun x C' => ex x σc C') I ⟨σc, C, _, S, h, fun d C1 v H1 q rv R1 k1 => ⟨d, C1, rv, R1, k1, q⟩⟩) fun u s1 ⟨x, H1, I1, ru, d, C1, rv, R1, k1, q⟩ => ?_)
  have S1 := S.step k1 R1
  refine thn (hb'.run pins s1 σ H1 (fun v H2 => ∃ e C2, Rep X.K H2 e v ∧ Rel X.K cl H2 C2 ∧ Keep H1 C1 H2 C2 ∧ ∃ p q fs gs, d = .ref p ∧ e = .ref q ∧ C2 p = some (.ins c fs) ∧ C2 q = some (.ins c gs) ∧ (gath g [.ref p, .ref q] []).length = np ∧
      sem (gath g [.ref p, .ref q] []) C2 (fun v C' => ∃ r, v = .ref r ∧ Qc v C') fun x C' => ex x σc C') I1 ⟨σc, C1, _, S1, q, fun e C2 v H2 q rv R2 k2 => ⟨e, C2, rv, R2, k2, q⟩⟩) fun u2 s2 ⟨y, H2, I2, ru2, e, C2, rv2, R2, k2, p, qa, fs, gs, e1, e2, hp, hq2, hl, hs⟩ => ?_
  subst e1; subst e2
  cases rv; cases rv2
  obtain rfl : u = Value.ref p := ru
  obtain rfl : u2 = Value.ref qa := ru2
  obtain ⟨Ca1, dx, fv, hc1, g1, _⟩ := R2 p _ hp
  obtain ⟨Ca2, dy, gv2, hc2, g2, _⟩ := R2 qa _ hq2
  rw [hc] at hc1 hc2
  cases hc1; cases hc2
  obtain ⟨mA, J, _⟩ := ins_get I2.hok g1
  obtain ⟨mB, J', _⟩ := ins_get I2.hok g2
  obtain ⟨od, J, _⟩ := J.look
  obtain ⟨od', J', _⟩ := J'.look
  obtain ⟨m, hF⟩ := I2.fr
  refine PySem.W.binop_K (op := .BitOr) hF I2.ok.mod.kin J J'.type sf hm.at_ hm.fn ?_
  have bind := b1 s2 [.ref p, .ref qa] [] I2.kIn rfl rfl
  have rr := run_at (args := ⟨[.ref p, .ref qa], []⟩) (Q := fun v H' => ∃ r C', v = .ref r ∧ Rel X.K cl H' C' ∧ Keep H2 C2 H' C' ∧ Qc (.ref r) C') (E := WE (WC X.K cl H0 C0 ex)) F hr hgd (by simpa using bind) (passAt tk σ) I2
    (b2 (.cons (show RelV (V.ref p) (Value.ref p) from rfl) (.cons (show RelV (V.ref qa) (Value.ref qa) from rfl) .nil)) .nil)
    ⟨_, C2, _, _, b3 H2 [.ref p, .ref qa] _ [] _ rfl rfl (.cons (.ref p) (.cons (.ref qa) .nil)) .nil, hl, R2, hs, fun d' C' v' H' ⟨r, er, qr⟩ rv R' kk => by
      subst er
      cases rv
      exact ⟨r, C', rfl, R', kk, qr⟩, fun x C'' cls d H'' hx xr R'' k'' => ⟨x, σc, C'', hx, xr, S1.step (k2.trans k'') R''⟩⟩
  refine wpAny_mono rr (fun w s' ⟨z, H', I', rz, r, C', ez, R', kk, qq⟩ => ?_) fun _ _ e => e
  subst ez
  obtain rfl : w = Value.ref r := rz
  exact ⟨.ref r, H', I', rfl, hq _ _ _ _ qq (.ref r) R' ((k1.trans k2).trans kk)⟩
structure OwnB (K : PySem.W.Frag) (Ca f : Addr) : Prop where
  mt : Meth K Ca "__or__" f
  sf : PySem.W.selfFirst K Ca = true
/-! (e, *es) -/
theorem star_lst {X : Cx} {pins : List (Addr × Obj)} {σ : L2.St} {H : Hp} {s : Shared} {a : Addr} {xs : List V} {E : Value → Shared → Prop} {Q : List Value → Shared → Prop} (I : Inv X pins σ H s) (h : SqL X.K H a xs) (hQ : ∀ us s', Inv X pins σ H s' → Vals xs us → Q us s') :
    PySem.W.StarOf (model X.prog X.w) X.A E (.ref a) Q s := by
  obtain ⟨its, r, ⟨o, n, ho, hc, _, hd⟩, hz⟩ := I.list h
  have hT : s.TypeIs (.ref a) "list" := ⟨o, ho, hc⟩
  have hl := r.length
  have z : wpAny (model X.prog X.w) X.A (collect (.ref a)) Q E s := by
    refine wpAny_collect_seq a (.inl rfl) ho hc hd (fun h' hk => ?_) (by rw [List.size_toArray]; omega)
    have e : its.toArray.toList = its := by simp
    rw [e]
    exact hQ its _ (I.kept (t' := s.toks) hk) r
  unfold PySem.W.StarOf notIterableAtAll
  exact wpAny_bind (wpAny_specialOf hT PySem.F.slot_list_iter.lookup (wpAny_pure ⟨rfl, z⟩))
def cTupS (a b : CTE) : CTE := fun σ C Q => a σ C fun d C1 => b σ C1 fun e C2 => ∃ ds, SqC C2 e ds ∧ ds.length + 1 ≤ sizeLine ∧ Q (.tup (d :: ds)) C2
def tStar (K : PySem.W.Frag) (ta tb : TE) : TA := fun σ H Q => ta σ H fun x H1 => tb σ H1 fun y H2 => ∃ p vs, y = .ref p ∧ (SqL K H2 p vs ∨ SqT K H2 p vs) ∧ Q (x :: vs) H2
theorem pa_star {X : Cx} {e1 e2 : Expr} {ta tb : TE} {p : Pos} (ha : PE X e1 ta) (hb : PE X e2 tb) (hs : starEach [e1, .Starred e2 p] X.env = (false, eval e1 X.env) :: starEach [.Starred e2 p] X.env) (hs2 : starEach [.Starred e2 p] X.env = [(true, eval e2 X.env)] := by rfl) : PA X [e1, .Starred e2 p] (tStar X.K ta tb) := by
  refine ⟨fun pos pins s σ H Q I h => ?_⟩
  rw [hs]
  show wpAny _ _ (spliced ((false, eval e1 X.env) :: backTo pos (starEach [.Starred e2 p] X.env))) _ _ s
  refine Calls.spliced_cons (thn (ha.run pins s σ H _ I h) fun u s1 ⟨x, H1, I1, r1, q1⟩ => ?_)
  refine PySem.W.items_star (thn (hb.run pins s1 σ H1 _ I1 q1) fun v s2 ⟨y, H2, I2, r2, t, vs, ey, ht, q2⟩ => ?_) hs2
  subst ey
  obtain rfl : v = Value.ref t := r2
  rcases ht with ht | ht
  · refine star_lst I2 ht fun us s3 I3 rv => Calls.spliced_nil ?_
    exact ⟨x :: vs, H2, I3, .cons r1 (by simpa using rv), q2⟩
  · refine star_tup I2 ht fun us s3 I3 rv => Calls.spliced_nil ?_
    exact ⟨x :: vs, H2, I3, .cons r1 (by simpa using rv), q2⟩
theorem cpe_tupS {x1} {p : Pos} (ha : CPE X cl H0 C0 a ca) (hb : CPE X cl H0 C0 b cb) (hs : starEach [a, .Starred b p] X.env = (false, eval a X.env) :: starEach [.Starred b p] X.env) : CPE X cl H0 C0 (.Tuple [a, .Starred b p] x1 pos) (cTupS ca cb) :=
  (pe_tup (pa_star ha hb hs)).imp fun σ H Q ⟨σc, C, Qc, S, h, hq⟩ => ⟨σc, C, _, S, h, fun d C1 v H1 h1 rv R1 k1 => ⟨σc, C1, _, S.step k1 R1, h1, fun e C2 u H2 ⟨ds, h2, hl, q⟩ ru R2 k2 => by
    obtain ⟨p, vs, rfl, hsq, rs⟩ := R2.sq h2 ru
    have rv2 := rv.keep R1 k2
    refine ⟨p, vs, rfl, hsq, by rw [List.length_cons, ← rs.length]; exact hl, fun q' hq' => ?_⟩
    exact (hq.from_ (k1.trans k2)).tup q (.cons rv2 rs) R2 hq'⟩⟩
end
end L3

namespace L3
open PySem L2
/-! ### the clean language -/
/-- built-in functions -/
inductive BI where
  | len | int | list | tuple | sum | all | any | maxL | max2 | min2 | abs | repr
  deriving DecidableEq
/-- methods of built-ins -/
inductive MI where
  | append | extend | pop | popAt | join
  deriving DecidableEq
inductive OpB where
  | add | sub | mul | fdiv | mod | pow
  deriving DecidableEq
inductive OpC where
  | eq | ne | lt | le | gt | ge | is | isNot | inD | notInD | inF | notInF | inS | notInS | inK | notInK
  deriving DecidableEq
/-- what is walked -/
inductive IK where
  | seq | txt | rg1 | rg2 | rg3 | rvs | enu
  deriving DecidableEq
inductive CE where
  | var (i : Nat) | cst (d : D) | glb (x : Str) (d : D)
  | bin (o : OpB) (a b : CE) | neg (a : CE) | cmp (o : OpC) (a b : CE) | chain (o o' : OpC) (a b c : CE)
  | and (a b : CE) | or (a b : CE) | not (a : CE) | ite (t a b : CE)
  | tup (es : List CE) | lst (es : List CE) | dic (ks vs : List CE) | dtk0 | dtk1 (a b : CE) | nev
  | idx (a b : CE) | idxK (a b : CE) | rev (a : CE) | slice (a : CE) (lo hi : Option CE)
  | call (f np n m : Nat) (g : List Src) (es ks : List CE)
  | make (c f np n m : Nat) (g : List Src) (es ks : List CE)
  | meth (c : Nat) (nm : Str) (f np n m : Nat) (g : List Src) (o : CE) (es ks : List CE)
  | isi (u : String ⊕ Nat) (a : CE)
  | bi (b : BI) (es : List CE) | mt (m : MI) (o : CE) (es : List CE)
  | attr (cs : List Nat) (f : Str) (o : CE)
  | eqO (c f np : Nat) (g : List Src) (ne : Bool) (a b : CE) | lenO (c f np : Nat) (g : List Src) (a : CE) | lzip (a b : CE) | srt (a : CE) | orO (c f np : Nat) (g : List Src) (a b : CE) | tupS (a b : CE)
  | lc (e : CE) (T : CT) (vs : List Nat) (k : IK) (it : List CE) (ifs : List CE)
inductive CS where
  | pass | brk | cont | retN | expr (e : CE) | ret (e : CE)
  | ifS (t : CE) (a b : List CS)
  | asg (T : CT) (e : CE) | par (i j : Nat) (a b : CE) | par3 (i j l : Nat) (a b c : CE) | setI (o i e : CE) | setK (o i e : CE) | never | setF (cs : List Nat) (f : Str) (o e : CE)
  | augN (i : Nat) (o : OpB) (e : CE)
  | forS (T : CT) (k : IK) (it : List CE) (body : List CS) | whileS (t : CE) (body : List CS)
  | raise (c : Nat) | raiseE (c : Nat) (e : CE) | tryS (cs : List Nat) (body suite : List CS) | tryA (cs : List Nat) (i : Nat) (body suite : List CS)
/-- what a body leans on -/
structure G3 where
  call : Nat → SemF
  make : Nat → SemF
  kit : String ⊕ Nat → String ⊕ Nat → Option Bool
/-! operators -/
def oAddA : O2 := fun x y C Q => match x, y with
  | .int i, .int j => Q (.int (i + j)) C
  | .str i, .str j => i.length + j.length ≤ sizeLine ∧ Q (.str (i ++ j)) C
  | .tup xs, .tup ys => xs.length + ys.length ≤ sizeLine ∧ Q (.tup (xs ++ ys)) C
  | .ref a, .ref b => ∃ xs ys, C a = some (.lst xs) ∧ C b = some (.lst ys) ∧ xs.length + ys.length ≤ sizeLine ∧ ∀ p, C p = none → Q (.ref p) (cup C p (.lst (xs ++ ys)))
  | _, _ => False
def oI2 (P : Int → Int → Prop) (g : Int → Int → D) : O2 := fun x y C Q => match x, y with
  | .int i, .int j => P i j ∧ Q (g i j) C
  | _, _ => False
def semB : OpB → O2
  | .add => oAddA
  | .sub => oI2 (fun _ _ => True) fun i j => .int (i - j)
  | .mul => oMulA
  | .fdiv => oI2 CDivN fun i j => .int (i.fdiv j)
  | .mod => oI2 (fun _ j => j ≠ 0) fun i j => .int (i.fmod j)
  | .pow => oI2 CPow fun i j => .int (i ^ j.toNat)
def semC : OpC → O2
  | .eq => oEqN id
  | .ne => oEqN not
  | .lt => oI2 (fun _ _ => True) fun i j => .bl (decide (i < j))
  | .le => oI2 (fun _ _ => True) fun i j => .bl (decide (i ≤ j))
  | .gt => oI2 (fun _ _ => True) fun i j => .bl (decide (j < i))
  | .ge => oI2 (fun _ _ => True) fun i j => .bl (decide (j ≤ i))
  | .is => oIs id
  | .isNot => oIs not
  | .inD => oInD id
  | .notInD => oInD not
  | .inF => oInF id
  | .notInF => oInF not
  | .inS => oInS id
  | .notInS => oInS not
  | .inK => oInK id
  | .notInK => oInK not
def oNeg : O1 := fun d C Q => match d with
  | .int i => Q (.int (-i)) C
  | _ => False
def semBI : BI → OL
  | .len => oLen
  | .int => oInt
  | .list => oList
  | .tuple => oTuple
  | .sum => fun xs C Q => ∃ (p : Addr) (ns : List Int), xs = [.ref p] ∧ LsC C p (ns.map D.int) ∧ Q (.int ns.sum) C
  | .all => oAll fun bs => .bl (bs.all id)
  | .any => oAll fun bs => .bl (bs.any id)
  | .maxL => oMaxL
  | .max2 => oMax2
  | .min2 => oMin2
  | .abs => oAbs
  | .repr => oRepr
def semMI : MI → OM
  | .append => oAppend
  | .extend => oExtendA
  | .pop => oPop
  | .popAt => oPopAt
  | .join => oJoin
def tyMI : MI → D → CH → Prop
  | .join => isStr
  | _ => isLst
def semIK : IK → List CTE → CTI
  | .seq, [a] => iSeq a
  | .txt, [a] => iTxt a
  | .rg1, [a] => iRg1 (cCons a cNil)
  | .rg2, [a, b] => iRg2 (cCons a (cCons b cNil))
  | .rg3, [a, b, c] => iRg3 (cCons a (cCons b (cCons c cNil)))
  | .rvs, [a] => iRvs a
  | .enu, [a] => iEnu a
  | _, _ => fun _ _ _ => False
def cChain (o o' : O2) (a b c : CTE) : CTE := fun σ C Q => a σ C fun d C1 => b σ C1 fun e C2 => o d e C2 fun z C3 => ∃ k, z = .bl k ∧ if k = true then c σ C3 fun f C4 => o' e f C4 Q else Q (.bl false) C3
/-- the pairs of a display, from the left -/
def cPrs (ks vs : List CTE) : Env3 → CH → (List (D × D) → CH → Prop) → Prop := fun σ C Q => match ks, vs with
  | k :: ks, v :: vs => k σ C fun d C1 => v σ C1 fun e C2 => cPrs ks vs σ C2 fun ps C3 => Q ((d, e) :: ps) C3
  | _, _ => Q [] C
def dicOf (ps : List (Key × D)) : List (Key × D) := ps.foldl (fun acc p => putC acc p.1 p.2) []
def cDic (ks vs : List CTE) : CTE := fun σ C Q => cPrs ks vs σ C fun ps C1 => ∃ kvs : List (Key × D), kvs.map (fun p => p.2) = ps.map (·.2) ∧ ps.map (fun p => keyD p.1) = kvs.map (fun p => some p.1) ∧ kvs.length ≤ 15 ∧ ∀ p, C1 p = none → Q (.ref p) (cup C1 p (.dic (dicOf kvs)))
/-- what is never reached -/
def cNev : CTE := fun _ _ _ => False
mutual
def rdE (G : G3) (ex : Kxs) : CE → CTE
  | .var i => cVar i
  | .cst d => cC d
  | .glb _ d => cC d
  | .bin o a b => cBin (semB o) (rdE G ex a) (rdE G ex b)
  | .neg a => cUn oNeg (rdE G ex a)
  | .cmp o a b => cBin (semC o) (rdE G ex a) (rdE G ex b)
  | .chain o o' a b c => cChain (semC o) (semC o') (rdE G ex a) (rdE G ex b) (rdE G ex c)
  | .and a b => cAndV (rdE G ex a) (rdE G ex b)
  | .or a b => cOrV (rdE G ex a) (rdE G ex b)
  | .not a => cNotV (rdE G ex a)
  | .ite t a b => cIf (rdT G ex t) (rdE G ex a) (rdE G ex b)
  | .tup es => cList oTup (rdA G ex es)
  | .lst es => cList oLst (rdA G ex es)
  | .dic ks vs => cDic (rdLs G ex ks) (rdLs G ex vs)
  | .idx a b => cBin oIxA (rdE G ex a) (rdE G ex b)
  | .idxK a b => cBin oGetK (rdE G ex a) (rdE G ex b)
  | .rev a => cRev (rdE G ex a)
  | .dtk0 => cDtk0
  | .dtk1 a b => cDtk1 (rdE G ex a) (rdE G ex b)
  | .nev => cNev
  | .slice a lo hi => cSl (rdE G ex a) (rdO G ex lo) (rdO G ex hi)
  | .call f np n m g es ks => cCall (G.call f) np n m g ex (rdA G ex es) (rdA G ex ks)
  | .make c f np n m g es ks => cMake c (G.make f) np n m g ex (rdA G ex es) (rdA G ex ks)
  | .meth c nm f np n m g o es ks => cMeth c nm (G.call f) np n m g ex (rdE G ex o) (rdA G ex es) (rdA G ex ks)
  | .isi u a => cUn (oIsi G.kit u) (rdE G ex a)
  | .bi b es => cList (semBI b) (rdA G ex es)
  | .mt m o es => cMt (tyMI m) (semMI m) (rdE G ex o) (rdA G ex es)
  | .attr cs f o => cAttr f (· ∈ cs) (rdE G ex o)
  | .eqO c f _ g ne a b => cBin (oEqO c (G.make f) g (if ne = true then not else id)) (rdE G ex a) (rdE G ex b)
  | .lenO c f _ g a => cList (oLenO c (G.make f) g) (cCons (rdE G ex a) cNil)
  | .orO c f np g a b => cOrO c (G.call f) np g ex (rdE G ex a) (rdE G ex b)
  | .tupS a b => cTupS (rdE G ex a) (rdE G ex b)
  | .lzip a b => cLzip (cCons (rdE G ex a) (cCons (rdE G ex b) cNil))
  | .srt a => cSrt (rdE G ex a)
  | .lc e T vs k it ifs => cLc (semIK k (rdLs G ex it)) T vs (rdIfs G (fun _ _ _ => False) ifs) (rdE G (fun _ _ _ => False) e)
def rdT (G : G3) (ex : Kxs) : CE → CTT
  | .and a b => cAnd (rdT G ex a) (rdT G ex b)
  | .or a b => cOr (rdT G ex a) (rdT G ex b)
  | .not a => cNot (rdT G ex a)
  | .var i => cTst (cVar i)
  | .cst d => cTst (cC d)
  | .glb _ d => cTst (cC d)
  | .bin o a b => cTst (cBin (semB o) (rdE G ex a) (rdE G ex b))
  | .neg a => cTst (cUn oNeg (rdE G ex a))
  | .cmp o a b => cTst (cBin (semC o) (rdE G ex a) (rdE G ex b))
  | .chain o o' a b c => cTst (cChain (semC o) (semC o') (rdE G ex a) (rdE G ex b) (rdE G ex c))
  | .ite t a b => cTst (cIf (rdT G ex t) (rdE G ex a) (rdE G ex b))
  | .tup es => cTst (cList oTup (rdA G ex es))
  | .lst es => cTst (cList oLst (rdA G ex es))
  | .dic ks vs => cTst (cDic (rdLs G ex ks) (rdLs G ex vs))
  | .idx a b => cTst (cBin oIxA (rdE G ex a) (rdE G ex b))
  | .idxK a b => cTst (cBin oGetK (rdE G ex a) (rdE G ex b))
  | .rev a => cTst (cRev (rdE G ex a))
  | .dtk0 => cTst cDtk0
  | .dtk1 a b => cTst (cDtk1 (rdE G ex a) (rdE G ex b))
  | .nev => cTst cNev
  | .slice a lo hi => cTst (cSl (rdE G ex a) (rdO G ex lo) (rdO G ex hi))
  | .call f np n m g es ks => cTst (cCall (G.call f) np n m g ex (rdA G ex es) (rdA G ex ks))
  | .make c f np n m g es ks => cTst (cMake c (G.make f) np n m g ex (rdA G ex es) (rdA G ex ks))
  | .meth c nm f np n m g o es ks => cTst (cMeth c nm (G.call f) np n m g ex (rdE G ex o) (rdA G ex es) (rdA G ex ks))
  | .isi u a => cTst (cUn (oIsi G.kit u) (rdE G ex a))
  | .bi b es => cTst (cList (semBI b) (rdA G ex es))
  | .mt m o es => cTst (cMt (tyMI m) (semMI m) (rdE G ex o) (rdA G ex es))
  | .attr cs f o => cTst (cAttr f (· ∈ cs) (rdE G ex o))
  | .eqO c f _ g ne a b => cTst (cBin (oEqO c (G.make f) g (if ne = true then not else id)) (rdE G ex a) (rdE G ex b))
  | .lenO c f _ g a => cTst (cList (oLenO c (G.make f) g) (cCons (rdE G ex a) cNil))
  | .orO c f np g a b => cTst (cOrO c (G.call f) np g ex (rdE G ex a) (rdE G ex b))
  | .tupS a b => cTst (cTupS (rdE G ex a) (rdE G ex b))
  | .lzip a b => cTst (cLzip (cCons (rdE G ex a) (cCons (rdE G ex b) cNil)))
  | .srt a => cTst (cSrt (rdE G ex a))
  | .lc e T vs k it ifs => cTst (cLc (semIK k (rdLs G ex it)) T vs (rdIfs G (fun _ _ _ => False) ifs) (rdE G (fun _ _ _ => False) e))
def rdA (G : G3) (ex : Kxs) : List CE → CTA
  | [] => cNil
  | e :: es => cCons (rdE G ex e) (rdA G ex es)
def rdLs (G : G3) (ex : Kxs) : List CE → List CTE
  | [] => []
  | e :: es => rdE G ex e :: rdLs G ex es
def rdIfs (G : G3) (ex : Kxs) : List CE → CTT
  | [] => cYes
  | [e] => rdT G ex e
  | _ => fun _ _ _ => False
def rdO (G : G3) (ex : Kxs) : Option CE → CTO
  | none => cNoPart
  | some e => cPart (rdE G ex e)
end
/-- x += e of numbers and texts -/
def oAug : OpB → O2
  | .add => fun x y C Q => match x, y with
    | .int i, .int j => Q (.int (i + j)) C
    | .str i, .str j => i.length + j.length ≤ sizeLine ∧ Q (.str (i ++ j)) C
    | _, _ => False
  | .sub => oI2 (fun _ _ => True) fun i j => .int (i - j)
  | _ => fun _ _ _ _ => False
def sAug (i : Nat) (o : O2) (e : CTE) : CTS := fun D σ C => ∃ d, σ[i]? = some (some d) ∧ e σ C fun z C1 => o d z C1 fun w C2 => D.nx (σ.set i (some w)) C2
mutual
def rdS (G : G3) (ex : Kxs) : CS → CTS
  | .pass => sNext
  | .brk => sBreak
  | .cont => sCont
  | .retN => sRetN
  | .expr e => sDrop (rdE G ex e)
  | .ret e => sRet (rdE G ex e)
  | .ifS t a b => sIf (rdT G ex t) (rdSs G ex a) (rdSs G ex b)
  | .asg T e => sAsg (rdE G ex e) (hT T)
  | .par i j a b => sPar i j (rdA G ex [a, b])
  | .par3 i j l a b c => sPar3 i j l (rdA G ex [a, b, c])
  | .setI o i e => sSet (rdE G ex e) (rdE G ex o) (rdE G ex i) (fun x y z C Q => oSetL x y z C Q ∨ oSetD x y z C Q)
  | .setK o i e => sSet (rdE G ex e) (rdE G ex o) (rdE G ex i) oSetK
  | .never => sNever
  | .setF cs f o e => sFldC f (· ∈ cs) (rdE G ex e) (rdE G ex o)
  | .augN i o e => sAug i (oAug o) (rdE G ex e)
  | .forS T k it body => sFor (semIK k (rdLs G ex it)) (hT T) (rdSs G ex body)
  | .whileS t body => sWhile (rdT G ex t) (rdSs G ex body)
  | .raise c => sRaise c ex
  | .raiseE c e => sRaiseE c ex (rdE G ex e)
  | .tryS cs body suite => sTry (fun c => decide (c ∈ cs)) (fun ex' => rdSs G ex' body) (rdSs G (fun _ _ _ => False) suite) ex
  | .tryA cs i body suite => fun D σ C => rdSs G (fun y σ1 C1 => if decide (y.cls ∈ cs) = true then ∀ a, C1 a = none → rdSs G (fun _ _ _ => False) suite { D with nx := fun σ' C' => D.nx (σ'.set i none) C', bk := fun σ' C' => D.bk (σ'.set i none) C', ct := fun σ' C' => D.ct (σ'.set i none) C' } (σ1.set i (some (.ref a))) C1 else ex y σ1 C1) body D σ C
def rdSs (G : G3) (ex : Kxs) : List CS → CTS
  | [] => sNext
  | s :: r => sSeq (rdS G ex s) (rdSs G ex r)
end
end L3

namespace L3
open PySem L2
/-! ### equality of data, decided -/
mutual
def beqD : D → D → Bool
  | .non, .non => true
  | .bl a, .bl b => a == b
  | .int a, .int b => a == b
  | .str a, .str b => decide (a = b)
  | .ty a, .ty b => decide (a = b)
  | .tup a, .tup b => beqDs a b
  | .rls a, .rls b => beqDs a b
  | .ref a, .ref b => Nat.beq a b
  | _, _ => false
def beqDs : List D → List D → Bool
  | [], [] => true
  | a :: as, b :: bs => beqD a b && beqDs as bs
  | _, _ => false
end
mutual
theorem beqD_eq : ∀ {a b : D}, beqD a b = true → a = b
  | .non, b, h => by cases b <;> first | rfl | (simp [beqD] at h)
  | .bl a, b, h => by cases b <;> simp [beqD] at h; rw [h]
  | .int a, b, h => by cases b <;> simp [beqD] at h; rw [h]
  | .str a, b, h => by cases b <;> simp [beqD] at h; rw [h]
  | .ty a, b, h => by cases b <;> simp [beqD] at h; rw [h]
  | .tup a, b, h => by
    cases b with
    | tup b => simp only [beqD] at h; rw [beqDs_eq h]
    | _ => simp [beqD] at h
  | .rls a, b, h => by
    cases b with
    | rls b => simp only [beqD] at h; rw [beqDs_eq h]
    | _ => simp [beqD] at h
  | .ref a, b, h => by
    cases b with
    | ref b => simp only [beqD] at h; rw [Nat.eq_of_beq_eq_true h]
    | _ => simp [beqD] at h
theorem beqDs_eq : ∀ {a b : List D}, beqDs a b = true → a = b
  | [], b, h => by cases b <;> first | rfl | (simp [beqDs] at h)
  | a :: as, b, h => by
    cases b with
    | nil => simp [beqDs] at h
    | cons b bs =>
      simp only [beqDs, Bool.and_eq_true] at h
      rw [beqD_eq h.1, beqDs_eq h.2]
end
def beqS : Src → Src → Bool
  | .pos a, .pos b => a == b
  | .kw a, .kw b => a == b
  | .dfl a, .dfl b => beqD a b
  | _, _ => false
theorem beqS_eq {a b : Src} (h : beqS a b = true) : a = b := by
  cases a <;> cases b <;> first | (simp [beqS] at h; rw [h]) | (simp only [beqS] at h; rw [beqD_eq h]) | (simp [beqS] at h)
def beqSs : List Src → List Src → Bool
  | [], [] => true
  | a :: as, b :: bs => beqS a b && beqSs as bs
  | _, _ => false
theorem beqSs_eq : ∀ {a b : List Src}, beqSs a b = true → a = b
  | [], [], _ => rfl
  | [], _ :: _, h => by simp [beqSs] at h
  | _ :: _, [], h => by simp [beqSs] at h
  | a :: as, b :: bs, h => by
    simp only [beqSs, Bool.and_eq_true] at h
    rw [beqS_eq h.1, beqSs_eq h.2]
/-- a call's form: its keywords, how many, how they are bound -/
def shC (kn : Option (List Str)) (k : Nat) (o : List Str → Option (Nat × List Src)) (np : Nat) (g : List Src) : Bool := match kn with
  | some kn => decide (kn.length = k) && (match o kn with | some (np', g') => decide (np' = np) && beqSs g g' | none => false)
  | none => false
/-! ### the names of a law -/
structure Tab where
  fn : Str → Option Nat
  cls : Str → Option Nat
  glb : Str → Option D
  blt : Str → Bool
  shape : Nat → Nat → List Str → Option (Nat × List Src)
  init : Nat → Option Nat
  own : Nat → Option Nat
  ownL : Nat → Option Nat
  ownB : Nat → Option Nat
  mth : Nat → Str → Option Nat
  attr : Nat → Str → Bool
  exc : Nat → Bool
  tch : Str → List Nat → Bool
def nmV (N : List Str) (sc : Scope) (x : Str) (i : Nat) : Bool := decide (N[i]? = some x) && (match sc.names.lookup x with | some .local => true | some .cell => true | some .free => true | _ => false) && !(x == ("__debug__" : Str)) && !(x == ("__classdict__" : Str))
def glN (sc : Scope) (x : Str) : Bool := decide (sc.names.lookup x = some .globalImplicit) && !(x == ("__debug__" : Str))
def nmL (N : List Str) (sc : Scope) (x : Str) (i : Nat) : Bool := decide (N[i]? = some x) && (match sc.names.lookup x with | some .local => true | some .cell => true | _ => false)
def biN : BI → Str
  | .len => "len" | .int => "int" | .list => "list" | .tuple => "tuple" | .sum => "sum" | .all => "all" | .any => "any" | .maxL => "max" | .max2 => "max" | .min2 => "min" | .abs => "abs" | .repr => "repr"
def biA : BI → Nat → Bool
  | .max2, n => n == 2
  | .min2, n => n == 2
  | _, n => n == 1
def miN : MI → Str
  | .append => "append" | .extend => "extend" | .pop => "pop" | .popAt => "pop" | .join => "join"
def miA : MI → Nat → Bool
  | .pop, n => n == 0
  | _, n => n == 1
def opN : OpB → Operator
  | .add => .Add | .sub => .Sub | .mul => .Mult | .fdiv => .FloorDiv | .mod => .Mod | .pow => .Pow
def opCN : OpC → CmpOp
  | .eq => .Eq | .ne => .NotEq | .lt => .Lt | .le => .LtE | .gt => .Gt | .ge => .GtE | .is => .Is | .isNot => .IsNot
  | .inK => .In | .notInK => .NotIn | .inD => .In | .notInD => .NotIn | .inF => .In | .notInF => .NotIn | .inS => .In | .notInS => .NotIn
def notSet : Expr → Bool
  | .Set .. => false
  | _ => true
def notComp : Expr → Bool
  | .ListComp .. => false
  | .SetComp .. => false
  | .DictComp .. => false
  | _ => true
def tgC (N : List Str) (sc : Scope) (tg : Expr) : CT → Bool
  | .nm i => match tg with | .Name x _ => nmL N sc x i | _ => false
  | .tp is => match tg with
    | .Tuple xs _ _ => decide (xs.length = is.length) && (xs.zip is).all fun p => match p.1 with | .Name x _ => nmL N sc x p.2 | _ => false
    | _ => false
def tgNs : Expr → List Str
  | .Name x _ => [x]
  | .Tuple xs _ _ => xs.filterMap fun e => match e with | .Name x _ => some x | _ => none
  | _ => []
def chkBool (f : Expr → CE → Bool) (op : BoolOp) : List Expr → CE → Bool
  | [e], c => f e c
  | e :: r, c => match op, c with
    | .And, .and a b => f e a && chkBool f op r b
    | .Or, .or a b => f e a && chkBool f op r b
    | _, _ => false
  | [], _ => false
def chkAs (f : Expr → CE → Bool) : List Expr → List CE → Bool
  | [], [] => true
  | e :: es, c :: cs => notStar e && f e c && chkAs f es cs
  | _, _ => false
def chkKs (f : Expr → CE → Bool) : List Keyword → List CE → Bool
  | [], [] => true
  | ⟨_, e, _⟩ :: es, c :: cs => f e c && chkKs f es cs
  | _, _ => false
def chkDs (f : Expr → CE → Bool) : List (Option Expr) → List Expr → List CE → List CE → Bool
  | [], [], [], [] => true
  | some k :: ks, v :: vs, c :: cs, d :: ds => f k c && f v d && chkDs f ks vs cs ds
  | _, _, _, _ => false
def chkO (f : Expr → CE → Bool) : Option Expr → Option CE → Bool
  | none, none => true
  | some e, some c => f e c
  | _, _ => false
def chkIfs (f : Expr → CE → Bool) : List Expr → List CE → Bool
  | [], [] => true
  | [e], [c] => f e c
  | _, _ => false
def isTup : Expr → Bool
  | .Tuple .. => true
  | _ => false
def chkIt (T : Tab) (sc : Scope) (f : Expr → CE → Bool) (tg iter : Expr) : IK → List CE → Bool
  | .seq, [a] => f iter a && notSet iter
  | .txt, [a] => f iter a && notSet iter
  | .rg1, [a] => match iter with | .Call (.Name x _) [e] [] _ => decide (x = "range") && glN sc x && T.blt x && notStar e && f e a | _ => false
  | .rg2, [a, b] => match iter with | .Call (.Name x _) [e, e'] [] _ => decide (x = "range") && glN sc x && T.blt x && notStar e && notStar e' && f e a && f e' b | _ => false
  | .rg3, [a, b, c] => match iter with | .Call (.Name x _) [e, e', e''] [] _ => decide (x = "range") && glN sc x && T.blt x && notStar e && notStar e' && notStar e'' && f e a && f e' b && f e'' c | _ => false
  | .rvs, [a] => match iter with | .Call (.Name x _) [e] [] _ => decide (x = "reversed") && glN sc x && T.blt x && notStar e && f e a | _ => false
  | .enu, [a] => match iter with | .Call (.Name x _) [e] [] _ => decide (x = "enumerate") && glN sc x && T.blt x && notStar e && f e a && isTup tg | _ => false
  | _, _ => false
def isiC (T : Tab) (sc : Scope) (u : String ⊕ Nat) (c : Expr) : Bool := match c with
  | .Name x _ => glN sc x && notStar c && (match u with
    | .inl n => T.blt x && decide (bootBuiltins x = some (.type n)) && !decide (x = ("__name__" : Str))
    | .inr k => decide (T.cls x = some k))
  | _ => false
variable (T : Tab) (N : List Str)
mutual
def chkE : Nat → Scope → Expr → CE → Bool
  | 0, _, _, _ => false
  | n + 1, sc, e, c => match c with
    | .var i => match e with | .Name x _ => nmV N sc x i | _ => false
    | .cst d => match e with
      | .Constant k _ _ => match k, d with
        | .none, .non => true
        | .bool a, .bl b => a == b
        | .int a, .int b => a == b
        | .str a, .str b => decide (a = b)
        | _, _ => false
      | _ => false
    | .glb x d => match e with | .Name y _ => decide (x = y) && glN sc y && (match T.glb y with | some d' => beqD d d' | none => false) | _ => false
    | .bin o a b => match e with | .BinOp x op y _ => decide (op = opN o) && chkE n sc x a && chkE n sc y b | _ => false
    | .neg a => match e with | .UnaryOp .USub x _ => chkE n sc x a | _ => false
    | .cmp o a b => match e with | .Compare x [op] [y] _ => decide (op = opCN o) && notSet y && chkE n sc x a && chkE n sc y b | _ => false
    | .chain o o' a b c => match e with | .Compare x [op, op'] [y, z] _ => decide (op = opCN o) && decide (op' = opCN o') && notSet z && chkE n sc x a && chkE n sc y b && chkE n sc z c | _ => false
    | .and _ _ => match e with | .BoolOp .And es _ => chkBool (chkE n sc) .And es c | _ => false
    | .or _ _ => match e with | .BoolOp .Or es _ => chkBool (chkE n sc) .Or es c | _ => false
    | .not a => match e with | .UnaryOp .Not x _ => chkE n sc x a | _ => false
    | .ite t a b => match e with | .IfExp z x y _ => chkT n sc z t && chkE n sc x a && chkE n sc y b | _ => false
    | .tup es => match e with | .Tuple xs _ _ => chkAs (chkE n sc) xs es | _ => false
    | .lst es => match e with | .List xs _ => chkAs (chkE n sc) xs es | _ => false
    | .dic ks vs => match e with | .Dict xs ys _ => chkDs (chkE n sc) xs ys ks vs && !xs.isEmpty && decide (xs.length ≤ 15) && decide (xs.length = ys.length) | _ => false
    | .idx a b => match e with | .Subscript x y _ => chkE n sc x a && chkE n sc y b && notSlice y | _ => false
    | .idxK a b => match e with | .Subscript x y _ => chkE n sc x a && chkE n sc y b && notSlice y | _ => false
    | .rev a => match e with | .Subscript x (.Slice none none (some (.UnaryOp .USub (.Constant (.int 1) _ _) _)) _) _ => chkE n sc x a | _ => false
    | .dtk0 => match e with | .Dict [] [] _ => true | _ => false
    | .dtk1 a b => match e with | .Dict [some x] [y] _ => chkE n sc x a && chkE n sc y b | _ => false
    | .nev => notComp e
    | .slice a lo hi => match e with | .Subscript x (.Slice l h none _) _ => chkE n sc x a && chkO (chkE n sc) l lo && chkO (chkE n sc) h hi | _ => false
    | .call f np m k g es ks => match e with
      | .Call (.Name x _) xs kws _ => glN sc x && decide (T.fn x = some f) && shC (kwNames kws) k (T.shape f m) np g && chkAs (chkE n sc) xs es && chkKs (chkE n sc) kws ks
      | _ => false
    | .make c f np m k g es ks => match e with
      | .Call (.Name x _) xs kws _ => glN sc x && decide (T.cls x = some c) && decide (T.init c = some f) && shC (kwNames kws) k (T.shape f (m + 1)) np g && chkAs (chkE n sc) xs es && chkKs (chkE n sc) kws ks
      | _ => false
    | .meth c nm f np m k g o es ks => match e with
      | .Call (.Attribute x a ap) xs kws cp => (ap.endLine == cp.line) && decide (xs.length + kws.length + 1 < 30) && decide (a = nm) && decide (T.mth c nm = some f) && shC (kwNames kws) k (T.shape f (m + 1)) np g && chkE n sc x o && chkAs (chkE n sc) xs es && chkKs (chkE n sc) kws ks && noSuper x
      | _ => false
    | .isi u a => match e with | .Call (.Name x _) [y, z] [] _ => decide (x = ("isinstance" : Str)) && glN sc x && T.blt x && chkE n sc y a && notStar y && isiC T sc u z | _ => false
    | .bi b es => match e with | .Call (.Name x _) xs [] _ => decide (x = biN b) && glN sc x && T.blt x && biA b xs.length && chkAs (chkE n sc) xs es | _ => false
    | .mt m o es => match e with | .Call (.Attribute x a ap) xs [] cp => decide (a = miN m) && miA m xs.length && chkE n sc x o && chkAs (chkE n sc) xs es && noSuper x && (ap.endLine == cp.line) | _ => false
    | .eqO c f np g ne a b => match e with | .Compare x [op] [y] _ => decide (op = if ne = true then .NotEq else .Eq) && notSet y && decide (T.own c = some f) && shC (some []) 0 (T.shape f 2) np g && decide (g.length = np) && chkE n sc x a && chkE n sc y b | _ => false
    | .orO c f np g a b => match e with | .BinOp x .BitOr y _ => decide (T.ownB c = some f) && shC (some []) 0 (T.shape f 2) np g && decide (g.length = np) && chkE n sc x a && chkE n sc y b | _ => false
    | .tupS a b => match e with | .Tuple [x, .Starred y _] _ _ => notStar x && chkE n sc x a && chkE n sc y b | _ => false
    | .lenO c f np g a => match e with | .Call (.Name x _) [y] [] _ => decide (x = ("len" : Str)) && glN sc x && T.blt x && decide (T.ownL c = some f) && shC (some []) 0 (T.shape f 1) np g && decide (g.length = np) && notStar y && chkE n sc y a | _ => false
    | .srt a => match e with | .Call (.Name x _) [.Call (.Name y _) [e1] [] _] [] _ => decide (x = ("sorted" : Str)) && glN sc x && T.blt x && decide (y = ("set" : Str)) && glN sc y && T.blt y && notStar e1 && chkE n sc e1 a | _ => false
    | .lzip a b => match e with | .Call (.Name x _) [.Call (.Name y _) [e1, e2] [] _] [] _ => decide (x = ("list" : Str)) && glN sc x && T.blt x && decide (y = ("zip" : Str)) && glN sc y && T.blt y && notStar e1 && notStar e2 && chkE n sc e1 a && chkE n sc e2 b | _ => false
    | .attr cs f o => match e with | .Attribute x a _ => decide (a = f) && (cs.all fun c => T.attr c f) && chkE n sc x o && noSuper x | _ => false
    | .lc c T' vs k it ifs => match e with
      | .ListComp elt [⟨tg, iter, ifs', asy⟩] scope _ => decide (asy = 0) && blkC N sc scope ((tgNs tg).zip T'.slots) && decide (vs = T'.slots) && decide ((tgNs tg).length = T'.slots.length) && tgC N scope tg T' && chkIt T sc (chkE n sc) tg iter k it && chkIfs (chkT n (relS scope sc)) ifs' ifs && chkE n (relS scope sc) elt c && notSet iter
      | _ => false
def chkT : Nat → Scope → Expr → CE → Bool
  | 0, _, _, _ => false
  | n + 1, sc, e, c => match c with
    | .and _ _ => match e with | .BoolOp .And es _ => chkBool (chkT n sc) .And es c | _ => false
    | .or _ _ => match e with | .BoolOp .Or es _ => chkBool (chkT n sc) .Or es c | _ => false
    | .not a => match e with | .UnaryOp .Not x _ => chkT n sc x a | _ => false
    | .cmp o a b => match e with | .Compare x [op] [y] _ => decide (op = opCN o) && notSet y && chkE n sc x a && chkE n sc y b | _ => false
    | .chain o o' a b c => match e with | .Compare x [op, op'] [y, z] _ => decide (op = opCN o) && decide (op' = opCN o') && notSet z && chkE n sc x a && chkE n sc y b && chkE n sc z c | _ => false
    | .eqO c f np g ne a b => match e with | .Compare x [op] [y] _ => decide (op = if ne = true then .NotEq else .Eq) && notSet y && decide (T.own c = some f) && shC (some []) 0 (T.shape f 2) np g && decide (g.length = np) && chkE n sc x a && chkE n sc y b | _ => false
    | c => plainTest e && chkE n sc e c
end
def chkSs (f : Stmt → CS → Bool) : List Stmt → List CS → Bool
  | [], [] => true
  | s :: r, c :: cs => f s c && chkSs f r cs
  | _, _ => false
/-- names told apart: the pair is stored by swapping (all local), or by a tuple (one is a cell) -/
def parOk (sc : Scope) (ts vs : List Expr) : Bool := false
def chkSuite (N : List Str) (sc : Scope) : Stmt → CS → Bool
  | .Assign [.Name x _] e _, .asg (.nm i) (.var j) => (match e with | .Name y _ => nmV N sc y j | _ => false) && decide (N[i]? = some x) && decide (sc.names.lookup x = some .local)
  | .Assign [.Name x _] e _, .asg (.nm i) (.cst d) => (match e, d with
      | .Constant .none _ _, .non => true
      | .Constant (.bool a) _ _, .bl b => a == b
      | .Constant (.str a) _ _, .str b => decide (a = b)
      | _, _ => false) && decide (N[i]? = some x) && decide (sc.names.lookup x = some .local)
  | .Return (some e) _, .ret (.cst d) => (match e, d with
      | .Constant .none _ _, .non => true
      | .Constant (.bool a) _ _, .bl b => a == b
      | .Constant (.str a) _ _, .str b => decide (a = b)
      | _, _ => false)
  | .Pass _, .pass => true
  | .Continue _, .cont => true
  | _, _ => false
def chkS : Nat → Scope → Stmt → CS → Bool
  | 0, _, _, _ => false
  | n + 1, sc, s, c => match c with
    | .pass => match s with | .Pass _ => true | _ => false
    | .brk => match s with | .Break _ => true | _ => false
    | .cont => match s with | .Continue _ => true | _ => false
    | .retN => match s with | .Return none _ => true | _ => false
    | .expr c => match s with | .Expr e _ => chkE T N n sc e c && notComp e | _ => false
    | .ret c => match s with | .Return (some e) _ => chkE T N n sc e c | _ => false
    | .ifS t a b => match s with | .If e x y _ => chkT T N n sc e t && chkSs (chkS n sc) x a && chkSs (chkS n sc) y b | _ => false
    | .asg (.nm i) c => match s with
      | .Assign [.Name x xp] e p => nmL N sc x i && chkE T N n sc e c && (notComp e || (match e with
        | .ListComp _ [_] scope cp => (match sc.names.lookup x with | some .local => (xp.line == cp.line) && !(scope.names.any fun (n, k) => n == x && (k == .local || k == .cell)) | _ => true)
        | _ => false))
      | _ => false
    | .asg (.tp is) c => match s with
      | .Assign [.Tuple xs a b] e _ => tgC N sc (.Tuple xs a b) (.tp is) && chkE T N n sc e c && notComp e && (match e with | .Tuple .. => decide (4 ≤ xs.length) || xs.any (fun z => match z with | .Name y _ => !decide (sc.names.lookup y = some .local) | _ => false) | _ => true)
      | _ => false
    | .par i j a b => match s with
      | .Assign [.Tuple [.Name x xp, .Name y yp] _ _] (.Tuple [e, e'] _ _) _ => decide (N[i]? = some x) && decide (N[j]? = some y) && decide (i ≠ j) && decide (sc.names.lookup x = some .local) && decide (sc.names.lookup y = some .local) && chkE T N n sc e a && chkE T N n sc e' b && notStar e && notStar e' && (xp.line == yp.line) && !(foldedForSure 8 e && foldedForSure 8 e') && !(constantsAlone 8 e && constantsAlone 8 e') && decide (x ≠ y)
      | _ => false
    | .par3 i j l a b c => match s with
      | .Assign [.Tuple [.Name x xp, .Name y yp, .Name z zp] _ _] (.Tuple [e, e', e2] _ _) _ => decide (N[i]? = some x) && decide (N[j]? = some y) && decide (N[l]? = some z) && decide (i ≠ j) && decide (i ≠ l) && decide (j ≠ l) && decide (sc.names.lookup x = some .local) && decide (sc.names.lookup y = some .local) && decide (sc.names.lookup z = some .local) && chkE T N n sc e a && chkE T N n sc e' b && chkE T N n sc e2 c && notStar e && notStar e' && notStar e2 && (xp.line == yp.line) && (xp.line == zp.line) && !(foldedForSure 8 e && (foldedForSure 8 e' && foldedForSure 8 e2)) && !(constantsAlone 8 e && (constantsAlone 8 e' && constantsAlone 8 e2)) && decide (x ≠ y) && decide (x ≠ z) && decide (y ≠ z)
      | _ => false
    | .setI o i c => match s with | .Assign [.Subscript x y _] e _ => chkE T N n sc x o && chkE T N n sc y i && chkE T N n sc e c && notComp e && notSlice y | _ => false
    | .setK o i c => match s with | .Assign [.Subscript x y _] e _ => chkE T N n sc x o && chkE T N n sc y i && chkE T N n sc e c && notComp e && notSlice y | _ => false
    | .never => true
    | .setF cs f o c => match s with | .Assign [.Attribute x a _] e _ => decide (a = f) && (cs.all fun c => T.attr c f) && chkE T N n sc x o && chkE T N n sc e c && notComp e | _ => false
    | .augN i o c => match s with | .AugAssign (.Name x _) op e _ => nmL N sc x i && decide (op = opN o) && (decide (o = .add) || decide (o = .sub)) && chkE T N n sc e c | _ => false
    | .forS T' k it body => match s with | .For tg iter b [] _ => tgC N sc tg T' && chkIt T sc (chkE T N n sc) tg iter k it && notSet iter && chkSs (chkS n sc) b body | _ => false
    | .whileS t body => match s with | .While e b [] _ => chkT T N n sc e t && chkSs (chkS n sc) b body | _ => false
    | .raise c => match s with | .Raise (some (.Call (.Name x _) [.Constant (.str _) _ _] [] _)) none _ => glN sc x && decide (T.cls x = some c) && T.exc c | _ => false
    | .raiseE c e => match s with | .Raise (some (.Call (.Name x _) [y] [] _)) none _ => glN sc x && decide (T.cls x = some c) && T.exc c && notStar y && chkE T N n sc y e | _ => false
    | .tryS cs body suite => match s with
      | .Try b [.ExceptHandler (some (.Name x _)) none (s0 :: su) _] [] [] _ => glN sc x && T.tch x cs && chkSs (chkS n sc) b body && chkSs (chkSuite N sc) (s0 :: su) suite
      | _ => false
    | .tryA cs i body suite => match s with
      | .Try b [.ExceptHandler (some (.Name x _)) (some y) (s0 :: su) _] [] [] _ => glN sc x && T.tch x cs && decide (N[i]? = some y) && decide (sc.names.lookup y = some .local) && chkSs (chkS n sc) b body && chkSs (chkSuite N sc) (s0 :: su) suite
      | _ => false
end L3

namespace L3
open PySem L2
/-- a def (or method) at a, numbered f -/
def FnAt (P : Program) (w : World) (K : PySem.W.Frag) (mg : Str → Option Value) (base : Heap) (cl : ClsT) (T : Tab) (sem : SemF) (k f : Nat) (a : Addr) : Prop :=
  ∃ fd ps np, FnOkG P w K mg base (L2.CX P w) k a fd ps (spC K cl np sem) ∧ ∀ m ks np' g, T.shape f m ks = some (np', g) → np' = np ∧ BindsC K fd ps m ks g
structure Facts (T : Tab) (P : Program) (w : World) (K : PySem.W.Frag) (mg : Str → Option Value) (base : Heap) (cl : ClsT) (G : G3) (n : Nat) : Prop where
  lv : 10 ≤ n
  clP : cl.P = P
  clw : cl.w = w
  fn : ∀ x f, T.fn x = some f → ∃ a, mg x = some (.ref a) ∧ PySem.W.keepIn K (.ref a) = true ∧ FnAt P w K mg base cl T (G.call f) n f a
  cls : ∀ x c, T.cls x = some c → ∃ Ca, cl c = some Ca ∧ mg x = some (.ref Ca)
  init : ∀ c f, T.init c = some f → ∃ Ca a, cl c = some Ca ∧ Mk K Ca a ∧ ∃ fd ps np, ((∀ ds C Q E, ¬ G.make f ds C Q E) ∨ ∃ k, FnOkG P w K mg base (L2.CX P w) k a fd ps (spC K cl np (G.make f)) ∧ k + 1 ≤ n) ∧ ∀ m ks np' g, T.shape f m ks = some (np', g) → np' = np ∧ BindsC K fd ps m ks g
  own : ∀ c f, T.own c = some f → ∃ Ca a, cl c = some Ca ∧ OwnE K Ca a ∧ ∃ fd ps np k, FnOkG P w K mg base (L2.CX P w) k a fd ps (spC K cl np (G.make f)) ∧ k + 1 ≤ n ∧ ∀ m ks np' g, T.shape f m ks = some (np', g) → np' = np ∧ BindsC K fd ps m ks g
  ownL : ∀ c f, T.ownL c = some f → ∃ Ca a, cl c = some Ca ∧ OwnL K Ca a ∧ ∃ fd ps np k, FnOkG P w K mg base (L2.CX P w) k a fd ps (spC K cl np (G.make f)) ∧ k + 1 ≤ n ∧ ∀ m ks np' g, T.shape f m ks = some (np', g) → np' = np ∧ BindsC K fd ps m ks g
  ownB : ∀ c f, T.ownB c = some f → ∃ Ca a, cl c = some Ca ∧ OwnB K Ca a ∧ FnAt P w K mg base cl T (G.call f) n f a
  mth : ∀ c m f, T.mth c m = some f → ∃ Ca a, cl c = some Ca ∧ Cls K Ca ∧ Meth K Ca m a ∧ FnAt P w K mg base cl T (G.call f) n f a
  glb : ∀ x d, T.glb x = some d → ∃ u v, mg x = some u ∧ RelV v u ∧ ∀ H, Rep K H d v
  blt : ∀ x, T.blt x = true → mg x = none
  attr : ∀ c f Ca, T.attr c f = true → cl c = some Ca → Cls K Ca ∧ NoAttr K Ca f
  kit : KitOk K cl G.kit
  kitc : ∀ c u b Ca, G.kit (.inr c) u = some b → cl c = some Ca → ClsOk K Ca
  exc : ∀ c Ca, T.exc c = true → cl c = some Ca → PySem.W.excIn K Ca [.type "ValueError", .type "Exception", .type "BaseException", .type "object"] "ValueError.__new__" = true ∧ PySem.W.keepIn K (.ref Ca) = true ∧ PySem.W.subIn K (.ref Ca) (.type "BaseException") = some true ∧ PySem.W.typeIn K (.ref Ca) = some (.type "type")
  tch : ∀ x cs, T.tch x cs = true → ∃ c, (mg x = some c ∨ (mg x = none ∧ bootBuiltins x = some c ∧ x ≠ "__name__")) ∧ SubOk K cl c fun i => decide (i ∈ cs)
section
variable {N : List Str} {sc : Scope} {x : Str} {i : Nat}
theorem nmV_ok (h : nmV N sc x i = true) : N[i]? = some x ∧ Vis sc x ∧ (x == ("__debug__" : Str)) = false ∧ (x == ("__classdict__" : Str)) = false := by
  unfold nmV at h
  simp only [Bool.and_eq_true, decide_eq_true_eq, Bool.not_eq_true'] at h
  obtain ⟨⟨⟨h1, h2⟩, h3⟩, h4⟩ := h
  refine ⟨h1, ?_, h3, h4⟩
  unfold Vis
  split at h2 <;> first | (cases h2; done) | simp_all
theorem nmL_ok (h : nmL N sc x i = true) : N[i]? = some x ∧ Loc sc x := by
  unfold nmL at h
  simp only [Bool.and_eq_true, decide_eq_true_eq] at h
  obtain ⟨h1, h2⟩ := h
  refine ⟨h1, ?_⟩
  unfold L2.Loc
  split at h2 <;> first | (cases h2; done) | simp_all
theorem glN_ok {X : Cx} (e : X.env.scope = sc) (h : glN sc x = true) : Gl X x ∧ (x == ("__debug__" : Str)) = false := by
  unfold glN at h
  simp only [Bool.and_eq_true, decide_eq_true_eq, Bool.not_eq_true'] at h
  refine ⟨?_, h.2⟩
  show X.env.scope.names.lookup x = _
  rw [e]; exact h.1
theorem notSet_fold {e : Expr} {env : Env} (h : notSet e = true) : ∀ x, foldedSetIterable e env x = pure x := fun x => by
  cases e <;> first | rfl | cases h
theorem notSet_mark {e : Expr} {op : CmpOp} (h : notSet e = true) : behindInMarks op e = false := by
  cases e <;> first | rfl | cases h
theorem plain_of {e : Expr} {env : Env} (h : plainTest e = true) : ∀ whole, isTrue e env whole = (do let v ← whole; standAt e.pos; holding [v] (truthy v)) := fun whole => by
  cases e with
  | UnaryOp op a p => cases op <;> first | rfl | cases h
  | _ => first | rfl | cases h
theorem swap_none {e : Expr} {t : Option Expr} {l : Nat} {env : Env} (h : notComp e = true) : swapsWith e t l env = pure false := by
  cases e <;> first | rfl | cases h
end
section
variable {T : Tab} {P : Program} {w : World} {K : PySem.W.Frag} {mg : Str → Option Value} {base : Heap} {cl : ClsT} {G : G3} {n : Nat} {N : List Str}
theorem takes_bot {X : Cx} {H0 : Hp} {C0 : CH} : Takes X (WC K cl H0 C0 fun _ _ _ => False) := fun u s' ⟨_, _, _, _, _, _, _, _, _, _, _, _, _, _, _, _, _, _, _, z, _⟩ => z.elim
/-- the statement of what the checker is worth -/
def SndE (P : Program) (w : World) (K : PySem.W.Frag) (mg : Str → Option Value) (base : Heap) (cl : ClsT) (G : G3) (n : Nat) (N : List Str) (sc : Scope) (e : Expr) (c : CE) : Prop :=
  ∀ top X H0 C0 ex, XOk P w K mg base n N sc top X → Takes X (WC K cl H0 C0 ex) → CPE X cl H0 C0 e (rdE G ex c)
def SndT (P : Program) (w : World) (K : PySem.W.Frag) (mg : Str → Option Value) (base : Heap) (cl : ClsT) (G : G3) (n : Nat) (N : List Str) (sc : Scope) (e : Expr) (c : CE) : Prop :=
  ∀ top X H0 C0 ex, XOk P w K mg base n N sc top X → Takes X (WC K cl H0 C0 ex) → CPT X cl H0 C0 e (rdT G ex c)
variable {X : Cx} {top : Bool} {H0 : Hp} {C0 : CH} {ex : Kxs} {sc : Scope} {f : Expr → CE → Bool}
theorem snd_args (ok : XOk P w K mg base n N sc top X) (tk : Takes X (WC K cl H0 C0 ex)) (hf : ∀ e c, f e c = true → SndE P w K mg base cl G n N sc e c) : ∀ {es : List Expr} {cs : List CE}, chkAs f es cs = true → CPA X cl H0 C0 es (rdA G ex cs) ∧ es.all notStar = true ∧ es.length = cs.length ∧ (es = [] → rdA G ex cs = cNil)
  | [], [], _ => ⟨cpa_nil, rfl, rfl, fun _ => rfl⟩
  | [], _ :: _, h => by simp [chkAs] at h
  | _ :: _, [], h => by simp [chkAs] at h
  | e :: es, c :: cs, h => by
    simp only [chkAs, Bool.and_eq_true] at h
    obtain ⟨⟨h1, h2⟩, h3⟩ := h
    obtain ⟨a, b, l, _⟩ := snd_args ok tk hf h3
    exact ⟨cpa_cons (hf e c h2 _ X H0 C0 ex ok tk) a (star_of h1), by rw [List.all_cons, h1, b]; rfl, congrArg (· + 1) l, fun z => nomatch z⟩
theorem snd_kws (ok : XOk P w K mg base n N sc top X) (tk : Takes X (WC K cl H0 C0 ex)) (hf : ∀ e c, f e c = true → SndE P w K mg base cl G n N sc e c) : ∀ {es : List Keyword} {cs : List CE}, chkKs f es cs = true → CPK X cl H0 C0 es (rdA G ex cs)
  | [], [], _ => cpk_nil
  | [], _ :: _, h => by simp [chkKs] at h
  | ⟨_, _, _⟩ :: _, [], h => by simp [chkKs] at h
  | ⟨nm, e, p⟩ :: es, c :: cs, h => by
    simp only [chkKs, Bool.and_eq_true] at h
    exact cpk_cons (hf e c h.1 _ X H0 C0 ex ok tk) (snd_kws ok tk hf h.2)
theorem snd_o (ok : XOk P w K mg base n N sc top X) (tk : Takes X (WC K cl H0 C0 ex)) (hf : ∀ e c, f e c = true → SndE P w K mg base cl G n N sc e c) : ∀ {e : Option Expr} {c : Option CE}, chkO f e c = true → CPO X cl H0 C0 e (rdO G ex c)
  | none, none, _ => cpo_none
  | some e, some c, h => cpo_some (hf e c h _ X H0 C0 ex ok tk)
  | none, some _, h => by simp [chkO] at h
  | some _, none, h => by simp [chkO] at h
theorem snd_ifs (ok : XOk P w K mg base n N sc top X) (tk : Takes X (WC K cl H0 C0 ex)) (hf : ∀ e c, f e c = true → SndT P w K mg base cl G n N sc e c) {es : List Expr} {cs : List CE} (h : chkIfs f es cs = true) : CPTs X cl H0 C0 es (rdIfs G ex cs) := by
  match es, cs, h with
  | [], [], _ => exact cpts_nil
  | [e], [c], h => exact cpts_one (hf e c h _ X H0 C0 ex ok tk)
  | [], _ :: _, h => simp [chkIfs] at h
  | [_], [], h => simp [chkIfs] at h
  | [_], _ :: _ :: _, h => simp [chkIfs] at h
  | _ :: _ :: _, _, h => simp [chkIfs] at h
theorem snd_boolE_and (ok : XOk P w K mg base n N sc top X) (tk : Takes X (WC K cl H0 C0 ex)) (hf : ∀ e c, f e c = true → SndE P w K mg base cl G n N sc e c) {pos : Pos} : ∀ {es : List Expr} {c : CE}, chkBool f .And es c = true → CPE X cl H0 C0 (.BoolOp .And es pos) (rdE G ex c)
  | [], c, h => by simp [chkBool] at h
  | [e], c, h => cpe_one (hf e c (by simpa [chkBool] using h) _ X H0 C0 ex ok tk)
  | e :: e' :: r, c, h => by
    cases c with
    | and a b =>
      simp only [chkBool, Bool.and_eq_true] at h
      exact cpe_and (hf e a h.1 _ X H0 C0 ex ok tk) (snd_boolE_and ok tk hf h.2)
    | _ => simp [chkBool] at h
theorem snd_boolE_or (ok : XOk P w K mg base n N sc top X) (tk : Takes X (WC K cl H0 C0 ex)) (hf : ∀ e c, f e c = true → SndE P w K mg base cl G n N sc e c) {pos : Pos} : ∀ {es : List Expr} {c : CE}, chkBool f .Or es c = true → CPE X cl H0 C0 (.BoolOp .Or es pos) (rdE G ex c)
  | [], c, h => by simp [chkBool] at h
  | [e], c, h => cpe_one (hf e c (by simpa [chkBool] using h) _ X H0 C0 ex ok tk)
  | e :: e' :: r, c, h => by
    cases c with
    | or a b =>
      simp only [chkBool, Bool.and_eq_true] at h
      exact cpe_or (hf e a h.1 _ X H0 C0 ex ok tk) (snd_boolE_or ok tk hf h.2)
    | _ => simp [chkBool] at h
theorem snd_boolT_and (ok : XOk P w K mg base n N sc top X) (tk : Takes X (WC K cl H0 C0 ex)) (hf : ∀ e c, f e c = true → SndT P w K mg base cl G n N sc e c) {pos : Pos} : ∀ {es : List Expr} {c : CE}, chkBool f .And es c = true → CPW X cl H0 C0 (.BoolOp .And es pos) (rdT G ex c)
  | [], c, h => by simp [chkBool] at h
  | [e], c, h => cpw_and1 (hf e c (by simpa [chkBool] using h) _ X H0 C0 ex ok tk)
  | e :: e' :: r, c, h => by
    cases c with
    | and a b =>
      simp only [chkBool, Bool.and_eq_true] at h
      exact cpw_and (hf e a h.1 _ X H0 C0 ex ok tk) (snd_boolT_and ok tk hf h.2)
    | _ => simp [chkBool] at h
theorem snd_boolT_or (ok : XOk P w K mg base n N sc top X) (tk : Takes X (WC K cl H0 C0 ex)) (hf : ∀ e c, f e c = true → SndT P w K mg base cl G n N sc e c) {pos : Pos} : ∀ {es : List Expr} {c : CE}, chkBool f .Or es c = true → CPW X cl H0 C0 (.BoolOp .Or es pos) (rdT G ex c)
  | [], c, h => by simp [chkBool] at h
  | [e], c, h => cpw_or1 (hf e c (by simpa [chkBool] using h) _ X H0 C0 ex ok tk)
  | e :: e' :: r, c, h => by
    cases c with
    | or a b =>
      simp only [chkBool, Bool.and_eq_true] at h
      exact cpw_or (hf e a h.1 _ X H0 C0 ex ok tk) (snd_boolT_or ok tk hf h.2)
    | _ => simp [chkBool] at h
theorem snd_it (F : Facts T P w K mg base cl G n) (ok : XOk P w K mg base n N sc top X) (tk : Takes X (WC K cl H0 C0 ex)) (hf : ∀ e c, f e c = true → SndE P w K mg base cl G n N sc e c) {tg iter : Expr} {k : IK} {cs : List CE} (h : chkIt T sc f tg iter k cs = true) : CPI X cl H0 C0 tg iter (semIK k (rdLs G ex cs)) ∧ notSet iter = true := by
  cases k with
  | seq =>
    match cs, h with
    | [a], h =>
      simp only [chkIt, Bool.and_eq_true] at h
      exact ⟨cpi_seq (hf _ _ h.1 _ X H0 C0 ex ok tk), h.2⟩
    | [], h => simp [chkIt] at h
    | _ :: _ :: _, h => simp [chkIt] at h
  | txt =>
    match cs, h with
    | [a], h =>
      simp only [chkIt, Bool.and_eq_true] at h
      exact ⟨cpi_txt (hf _ _ h.1 _ X H0 C0 ex ok tk), h.2⟩
    | [], h => simp [chkIt] at h
    | _ :: _ :: _, h => simp [chkIt] at h
  | rg1 =>
    match cs, h with
    | [a], h =>
      simp only [chkIt] at h
      split at h
      · simp only [Bool.and_eq_true, decide_eq_true_eq] at h
        obtain ⟨⟨⟨⟨h1, h2⟩, h3⟩, h4⟩, h5⟩ := h
        subst h1
        obtain ⟨g1, g2⟩ := glN_ok ok.sc_ h2
        have hm := F.blt _ h3
        rw [← ok.mg_] at hm
        exact ⟨cpi_rg1 g1 hm (cpa_cons (hf _ _ h5 _ X H0 C0 ex ok tk) cpa_nil (star_of h4)) (star_of h4), rfl⟩
      · cases h
    | [], h => simp [chkIt] at h
    | _ :: _ :: _, h => simp [chkIt] at h
  | rg2 =>
    match cs, h with
    | [a, b], h =>
      simp only [chkIt] at h
      split at h
      · simp only [Bool.and_eq_true, decide_eq_true_eq] at h
        obtain ⟨⟨⟨⟨⟨⟨h1, h2⟩, h3⟩, h4⟩, h5⟩, h6⟩, h7⟩ := h
        subst h1
        obtain ⟨g1, g2⟩ := glN_ok ok.sc_ h2
        have hm := F.blt _ h3
        rw [← ok.mg_] at hm
        refine ⟨cpi_rg2 g1 hm (cpa_cons (hf _ _ h6 _ X H0 C0 ex ok tk) (cpa_cons (hf _ _ h7 _ X H0 C0 ex ok tk) cpa_nil (star_of h5)) (star_of h4)) ?_ (star_of h5), rfl⟩
        rw [star_of h4, star_of h5]; rfl
      · cases h
    | [], h => simp [chkIt] at h
    | [_], h => simp [chkIt] at h
    | _ :: _ :: _ :: _, h => simp [chkIt] at h
  | rg3 =>
    match cs, h with
    | [a, b, c], h =>
      simp only [chkIt] at h
      split at h
      · simp only [Bool.and_eq_true, decide_eq_true_eq] at h
        obtain ⟨⟨⟨⟨⟨⟨⟨⟨h1, h2⟩, h3⟩, h4⟩, h5⟩, h5'⟩, h6⟩, h7⟩, h8⟩ := h
        subst h1
        obtain ⟨g1, g2⟩ := glN_ok ok.sc_ h2
        have hm := F.blt _ h3
        rw [← ok.mg_] at hm
        refine ⟨cpi_rg3 g1 hm (cpa_cons (hf _ _ h6 _ X H0 C0 ex ok tk) (cpa_cons (hf _ _ h7 _ X H0 C0 ex ok tk) (cpa_cons (hf _ _ h8 _ X H0 C0 ex ok tk) cpa_nil (star_of h5')) (star_of h5)) (star_of h4)) (star_of h4) ?_, rfl⟩
        rw [star_of h5, star_of h5']; rfl
      · cases h
    | [], h => simp [chkIt] at h
    | [_], h => simp [chkIt] at h
    | [_, _], h => simp [chkIt] at h
    | _ :: _ :: _ :: _ :: _, h => simp [chkIt] at h
  | rvs =>
    match cs, h with
    | [a], h =>
      simp only [chkIt] at h
      split at h
      · simp only [Bool.and_eq_true, decide_eq_true_eq] at h
        obtain ⟨⟨⟨⟨h1, h2⟩, h3⟩, h4⟩, h5⟩ := h
        subst h1
        obtain ⟨g1, g2⟩ := glN_ok ok.sc_ h2
        have hm := F.blt _ h3
        rw [← ok.mg_] at hm
        exact ⟨cpi_rvs g1 hm (hf _ _ h5 _ X H0 C0 ex ok tk) (star_of h4), rfl⟩
      · cases h
    | [], h => simp [chkIt] at h
    | _ :: _ :: _, h => simp [chkIt] at h
  | enu =>
    match cs, h with
    | [a], h =>
      simp only [chkIt] at h
      split at h
      · simp only [Bool.and_eq_true, decide_eq_true_eq] at h
        obtain ⟨⟨⟨⟨⟨h1, h2⟩, h3⟩, h4⟩, h5⟩, h6⟩ := h
        subst h1
        obtain ⟨g1, g2⟩ := glN_ok ok.sc_ h2
        have hm := F.blt _ h3
        rw [← ok.mg_] at hm
        cases tg with
        | Tuple elts kk tpos => exact ⟨cpi_enu g1 hm (hf _ _ h5 _ X H0 C0 ex ok tk) (star_of h4), rfl⟩
        | _ => cases h6
      · cases h
    | [], h => simp [chkIt] at h
    | _ :: _ :: _, h => simp [chkIt] at h
/-- a chain of two comparisons -/
theorem tChain_of {r r' : R2} {o o' : O2} {ca cb cc : CTE} (l : Lk2 X.K cl r o) (l' : Lk2 X.K cl r' o') : ∀ σ H Q, tE X.K cl H0 C0 (cChain o o' ca cb cc) σ H Q → tChain r r' (tE X.K cl H0 C0 ca) (tE X.K cl H0 C0 cb) (tE X.K cl H0 C0 cc) σ H Q :=
  fun σ H Q ⟨σc, C, Qc, S, h, hq⟩ => ⟨σc, C, _, S, h, fun d C1 v H1 h1 rv R1 k1 => ⟨σc, C1, _, S.step k1 R1, h1, fun e C2 u H2 h2 ru R2 k2 =>
    l H2 C2 d e v u _ _ (rv.keep R1 k2) ru R2 h2 fun z C3 w3 H3 ⟨k, ez, h3⟩ rz R3 k3 => by
      subst ez; cases rz
      refine ⟨k, rfl, ?_⟩
      have kk := (k1.trans k2).trans k3
      cases k with
      | true => exact iteT ⟨σc, C3, _, S.step kk R3, h3, fun f C4 w4 H4 h4 rf R4 k4 => l' H4 C4 e f u w4 Q Qc ((ru.keep R2 k3).keep R3 k4) rf R4 h4 (hq.from_ (kk.trans k4))⟩
      | false => exact iteF (hq _ _ _ _ h3 (.bl _) R3 kk)⟩⟩
theorem cpe_chain {op op' : CmpOp} {r r' : R2} {o o' : O2} {a b c : Expr} {ca cb cc : CTE} {pos : Pos} (ho : OpR X (compareOp op) r) (ho' : OpR X (compareOp op') r') (l : Lk2 X.K cl r o) (l' : Lk2 X.K cl r' o') (ha : CPE X cl H0 C0 a ca) (hb : CPE X cl H0 C0 b cb) (hc : CPE X cl H0 C0 c cc)
    (hm : lastMarks [op, op'] [b, c] = false) : CPE X cl H0 C0 (.Compare a [op, op'] [b, c] pos) (cChain o o' ca cb cc) := (pe_chain ho ho' ha hb hc hm).imp (tChain_of l l')
theorem cpt_chain {op op' : CmpOp} {r r' : R2} {o o' : O2} {a b c : Expr} {ca cb cc : CTE} {pos : Pos} (ho : OpR X (compareOp op) r) (ho' : OpR X (compareOp op') r') (l : Lk2 X.K cl r o) (l' : Lk2 X.K cl r' o') (ha : CPE X cl H0 C0 a ca) (hb : CPE X cl H0 C0 b cb) (hc : CPE X cl H0 C0 c cc)
    (hm : lastMarks [op, op'] [b, c] = false) : CPT X cl H0 C0 (.Compare a [op, op'] [b, c] pos) (cTst (cChain o o' ca cb cc)) :=
  (pt_chain ho ho' ha hb hc hm).imp fun σ H Q ⟨σc, C, Qc, S, h, hq⟩ => tChain_of l l' σ H _ ⟨σc, C, _, S, h, fun z C1 v H1 ⟨b, h1, h2⟩ rz R1 k1 => by
    subst h1; cases rz
    exact ⟨b, rfl, hq _ _ _ h2 R1 k1⟩⟩
/-! ### operators by their codes -/
theorem lk_I2 {P : Int → Int → Prop} {g : Int → Int → V} {g' : Int → Int → D} (hg : ∀ H i j, Rep K H (g' i j) (g i j)) : Lk2 K cl (rI P g) (oI2 P g') := fun H C d e v u Q Qc rd re R h hq => by
  cases d with
  | int i =>
    cases e with
    | int j => cases rd; cases re; exact ⟨i, j, rfl, rfl, h.1, hq.now h.2 (hg H i j) R⟩
    | _ => exact h.elim
  | _ => exact h.elim
theorem lk_I20 {g : Int → Int → V} {g' : Int → Int → D} (hg : ∀ H i j, Rep K H (g' i j) (g i j)) : Lk2 K cl (rI0 g) (oI2 (fun _ _ => True) g') := fun H C d e v u Q Qc rd re R h hq => by
  cases d with
  | int i =>
    cases e with
    | int j => cases rd; cases re; exact ⟨i, j, rfl, rfl, hq.now h.2 (hg H i j) R⟩
    | _ => exact h.elim
  | _ => exact h.elim
theorem lk_addA : Lk2 K cl (fun x y H Q => rI0 (fun i j => .int (i + j)) x y H Q ∨ ((∃ i j, x = .str i ∧ y = .str j ∧ i.length + j.length ≤ sizeLine ∧ Q (.str (i ++ j)) H) ∨ (rCatA K x y H Q ∨ rCat x y H Q))) oAddA := fun H C d e v u Q Qc rd re R h hq => by
  cases d with
  | int i =>
    cases e with
    | int j => cases rd; cases re; exact .inl ⟨i, j, rfl, rfl, hq.now h (.int _) R⟩
    | _ => exact h.elim
  | str i =>
    cases e with
    | str j => exact .inr (.inl (lk_addS H C _ _ v u Q Qc rd re R ⟨i, j, rfl, rfl, h.1, h.2⟩ hq))
    | _ => exact h.elim
  | tup xs =>
    cases e with
    | tup ys => exact .inr (.inr (.inl (lk_catT H C _ _ v u Q Qc rd re R ⟨xs, ys, rfl, rfl, h.1, h.2⟩ hq)))
    | _ => exact h.elim
  | ref a =>
    cases e with
    | ref b =>
      obtain ⟨xs, ys, h1, h2, h3, h4⟩ := h
      exact .inr (.inr (.inr (lk_cat H C _ _ v u Q Qc rd re R ⟨a, b, xs, ys, rfl, rfl, h1, h2, h3, h4⟩ hq)))
    | _ => exact h.elim
  | _ => exact h.elim
theorem lk_mulA {K : PySem.W.Frag} : Lk2 K cl (fun x y H Q => rI CMul (fun i j => .int (i * j)) x y H Q ∨ (rRepU K x y H Q ∨ rRep x y H Q)) oMulA := fun H C d e v u Q Qc rd re R h hq => by
  cases d with
  | int i =>
    cases e with
    | int j => cases rd; cases re; exact .inl ⟨i, j, rfl, rfl, h.1, hq.now h.2 (.int _) R⟩
    | _ => exact h.elim
  | tup xs =>
    cases e with
    | int k => exact .inr (.inl (lk_mulT H C _ _ v u Q Qc rd re R ⟨xs, k, rfl, rfl, h.1, h.2.1, h.2.2.1, h.2.2.2.1, h.2.2.2.2⟩ hq))
    | _ => exact h.elim
  | ref a =>
    cases e with
    | int k =>
      obtain ⟨xs, h1, h2, h3, h4, h5⟩ := h
      cases rd; cases re
      obtain ⟨vs, g1, r1⟩ := R a _ h1
      exact .inr (.inr ⟨a, k, vs, rfl, rfl, g1, h2, h3, by rw [← r1.length]; exact h4, fun l hl => hq.lst (r1.rep _) R hl (h5 l (free_of R hl))⟩)
    | _ => exact h.elim
  | _ => exact h.elim
theorem semB_ok (o : OpB) : ∃ r, OpR X (binaryOp (opN o)) r ∧ Lk2 X.K cl r (semB o) := by
  cases o with
  | add => exact ⟨_, op_add.or (op_add_str.or (op_catA.or op_cat)), lk_addA⟩
  | sub => exact ⟨_, op_sub, lk_I20 fun _ _ _ => .int _⟩
  | mul => exact ⟨_, op_mul.or (op_repU.or op_rep), lk_mulA⟩
  | fdiv => exact ⟨_, op_fdivN, lk_I2 fun _ _ _ => .int _⟩
  | mod => exact ⟨_, op_modN, lk_I2 fun _ _ _ => .int _⟩
  | pow => exact ⟨_, op_pow, lk_I2 fun _ _ _ => .int _⟩
theorem semC_ok (hP : cl.P = X.prog) (hw : cl.w = X.w) (h10 : 10 ≤ n) (hr : Room n X.A) (o : OpC) : ∃ r, OpR X (compareOp (opCN o)) r ∧ Lk2 X.K cl r (semC o) := by
  have hu : X.A.units + 65 < cLine := by have := hr.un; omega
  cases o with
  | eq => exact ⟨_, op_eqN (by have := hr.un; omega), lk_eqN id⟩
  | ne => exact ⟨_, op_neN (by have := hr.un; omega), lk_eqN not⟩
  | lt => exact ⟨_, op_lt, lk_I20 fun _ _ _ => .bl _⟩
  | le => exact ⟨_, op_le, lk_I20 fun _ _ _ => .bl _⟩
  | gt => exact ⟨_, op_gt, lk_I20 fun _ _ _ => .bl _⟩
  | ge => exact ⟨_, op_ge, lk_I20 fun _ _ _ => .bl _⟩
  | is => exact ⟨_, op_isN, lk_is⟩
  | isNot => exact ⟨_, op_notN, lk_isnot⟩
  | inD => exact ⟨_, op_inD hu, lk_inD⟩
  | inK => exact ⟨_, op_inK hP hw (by omega), lk_inK id⟩
  | notInK => exact ⟨_, op_notInK hP hw (by omega), lk_inK not⟩
  | notInD => exact ⟨_, op_notInD hu, lk_notInD⟩
  | inF => exact ⟨_, op_in_seq, lk_inF⟩
  | notInF => exact ⟨_, op_notIn_seq, lk_notInF⟩
  | inS => exact ⟨_, op_in_sign, lk_inS⟩
  | notInS => exact ⟨_, op_notIn_sign, lk_notInS⟩
theorem lk_neg : Lk1 K cl (rU fun i => .int (-i)) oNeg := fun H C d v Q Qc rd R h hq => by
  cases d with
  | int i => cases rd; exact ⟨i, rfl, hq.now h (.int _) R⟩
  | _ => exact h.elim
theorem semBI_ok (hc : X.calm = true) (hgd : X.A.guards = some []) (h10 : 10 ≤ n) (hr : Room n X.A) (b : BI) : ∃ r, ((CallR X (.builtin (String.ofList ((biN b).cps.toList.map Char.ofNat))) r ∧ bootBuiltins (biN b) = some (.builtin (String.ofList ((biN b).cps.toList.map Char.ofNat)))) ∨ (CallR X (.type (String.ofList ((biN b).cps.toList.map Char.ofNat))) r ∧ bootBuiltins (biN b) = some (.type (String.ofList ((biN b).cps.toList.map Char.ofNat))))) ∧ LkL X.K cl r (semBI b) := by
  cases b with
  | len => exact ⟨_, .inl ⟨call_len_seq.or call_len_str, by decide +kernel⟩, lk_len⟩
  | int => exact ⟨_, .inr ⟨call_int1, by decide +kernel⟩, lk_int⟩
  | list => exact ⟨_, .inr ⟨call_list_of, by decide +kernel⟩, lk_list⟩
  | tuple => exact ⟨_, .inr ⟨call_tuple_of, by decide +kernel⟩, lk_tuple⟩
  | sum => exact ⟨_, .inl ⟨cr_sum hc, by decide +kernel⟩, lk_sum⟩
  | all => exact ⟨_, .inl ⟨cr_all hc, by decide +kernel⟩, lk_allB⟩
  | any => exact ⟨_, .inl ⟨cr_any hc, by decide +kernel⟩, lk_anyB⟩
  | maxL => exact ⟨_, .inl ⟨cr_max hc, by decide +kernel⟩, lk_maxL⟩
  | max2 => exact ⟨_, .inl ⟨call_max2 hc, by decide +kernel⟩, lk_max2⟩
  | min2 => exact ⟨_, .inl ⟨call_min2 hc, by decide +kernel⟩, lk_min2⟩
  | abs => exact ⟨_, .inl ⟨call_abs, by decide +kernel⟩, lk_abs⟩
  | repr => exact ⟨_, .inl ⟨call_reprA hgd (by have := hr.un; omega), by decide +kernel⟩, lk_repr⟩
/-! ### displays of dicts -/
theorem cDic_ok (ok : XOk P w K mg base n N sc top X) (tk : Takes X (WC K cl H0 C0 ex)) (hf : ∀ e c, f e c = true → SndE P w K mg base cl G n N sc e c) {pos : Pos} : ∀ {ks : List (Option Expr)} {vs : List Expr} {cs ds : List CE}, chkDs f ks vs cs ds = true →
    ∃ trs, PPs X pos ks vs trs ∧ ks.all (·.isSome) = true ∧ ∀ σ H σc C Qc (Q : List (V × V) → Hp → Prop), S3 X.K cl H0 C0 σ H σc C → cPrs (rdLs G ex cs) (rdLs G ex ds) σc C Qc →
      (∀ ps C' qs H', Qc ps C' → RepL X.K H' (ps.map (·.1)) (qs.map (·.1)) → RepL X.K H' (ps.map (·.2)) (qs.map (·.2)) → Rel X.K cl H' C' → Keep H C H' C' → Q qs H') → tPairs trs σ H Q
  | [], [], [], [], _ => ⟨[], pps_nil, rfl, fun σ H σc C Qc Q S h hq => hq [] C [] H h .nil .nil S.r Keep.refl⟩
  | some k :: ks, v :: vs, c :: cs, d :: ds, h => by
    simp only [chkDs, Bool.and_eq_true] at h
    obtain ⟨⟨h1, h2⟩, h3⟩ := h
    obtain ⟨trs, p, a, q⟩ := cDic_ok ok tk hf h3
    refine ⟨_, pps_cons (hf k c h1 _ X H0 C0 ex ok tk) (hf v d h2 _ X H0 C0 ex ok tk) p, by rw [List.all_cons, a]; rfl, fun σ H σc C Qc Q S h hq => ⟨σc, C, _, S, h, fun x C1 xv H1 h1 rx R1 k1 => ⟨σc, C1, _, S.step k1 R1, h1, fun y C2 yv H2 h2 ry R2 k2 => ?_⟩⟩⟩
    refine q σ H2 σc C2 _ _ ((S.step k1 R1).step k2 R2) h2 fun ps C3 qs H3 h3 r1 r2 R3 k3 => ?_
    exact hq _ C3 _ H3 h3 (.cons ((rx.keep R1 k2).keep R2 k3) r1) (.cons (ry.keep R2 k3) r2) R3 ((k1.trans k2).trans k3)
  | [], [], [], _ :: _, h => by simp [chkDs] at h
  | [], [], _ :: _, _, h => by simp [chkDs] at h
  | [], _ :: _, _, _, h => by simp [chkDs] at h
  | none :: _, _, _, _, h => by simp [chkDs] at h
  | some _ :: _, [], _, _, h => by simp [chkDs] at h
  | some _ :: _, _ :: _, [], _, h => by simp [chkDs] at h
  | some _ :: _, _ :: _, _ :: _, [], h => by simp [chkDs] at h
theorem dicOf_rep {H : Hp} : ∀ {kvs : List (Key × D)} {vs : List (Key × V)} {acc : List (Key × D)} {acv : List (Key × V)}, RepF K H kvs vs → RepF K H acc acv → RepF K H (kvs.foldl (fun acc p => putC acc p.1 p.2) acc) (vs.foldl (fun acc p => putK acc p.1 p.2) acv)
  | [], vs, acc, acv, h, a => by cases h; exact a
  | (k, d) :: kvs, vs, acc, acv, h, a => by
    cases h with
    | cons r t =>
      rename_i v vs'
      exact dicOf_rep (kvs := kvs) (vs := vs') (acc := putC acc k d) (acv := putK acv k v) t (a.put _ r)
theorem cpe_dic (ok : XOk P w K mg base n N sc top X) (tk : Takes X (WC K cl H0 C0 ex)) (hf : ∀ e c, f e c = true → SndE P w K mg base cl G n N sc e c) {pos : Pos} {ks : List (Option Expr)} {vs : List Expr} {cs ds : List CE} (h : chkDs f ks vs cs ds = true) (h0 : ks ≠ []) (h15 : ks.length ≤ 15) (hl : ks.length = vs.length) :
    CPE X cl H0 C0 (.Dict ks vs pos) (cDic (rdLs G ex cs) (rdLs G ex ds)) := by
  obtain ⟨trs, p, a, q⟩ := cDic_ok (pos := pos) ok tk hf h
  refine (pe_disp p a hl h0 h15).imp fun σ H Q ⟨σc, C, Qc, S, h, hq⟩ p hp => ?_
  have R1 := S.r.newH hp (.dK [])
  have k1 := keep_newH hp (.dK []) S.r
  refine q σ _ σc C _ _ (S.step k1 R1) h fun ps C3 qs H3 ⟨kvs, e1, e2, e3, h3⟩ r1 r2 R3 k3 => ?_
  have hC : C p = none := free_of S.r hp
  obtain ⟨hp3, hC3⟩ := k3 p _ upd_same hC
  -- the pairs by keys
  have go : ∀ (ps : List (D × D)) (qs : List (V × V)) (kvs : List (Key × D)), RepL X.K H3 (ps.map (·.1)) (qs.map (·.1)) → RepL X.K H3 (ps.map (·.2)) (qs.map (·.2)) → kvs.map (fun p => p.2) = ps.map (·.2) → ps.map (fun p => keyD p.1) = kvs.map (fun p => some p.1) →
      ∃ kvv : List (Key × V), qs = kvv.map (fun kv => (kV kv.1, kv.2)) ∧ RepF X.K H3 kvs kvv := by
    intro ps
    induction ps with
    | nil =>
      intro qs kvs a1 a2 a3 a4
      cases qs with
      | nil =>
        cases kvs with
        | nil => exact ⟨[], rfl, .nil⟩
        | cons _ _ => cases a3
      | cons _ _ => cases a1
    | cons pr ps ih =>
      intro qs kvs a1 a2 a3 a4
      cases qs with
      | nil => cases a1
      | cons qr qs =>
        cases kvs with
        | nil => cases a3
        | cons kr kvs =>
          rw [List.map_cons, List.map_cons] at a1 a2 a3 a4
          cases a1 with
          | cons x1 t1 =>
            cases a2 with
            | cons x2 t2 =>
              injection a3 with b1 b2
              injection a4 with c1 c2
              obtain ⟨kvv, d1, d2⟩ := ih qs kvs t1 t2 b2 c2
              have ek := keyD_rep c1 x1
              obtain ⟨q1, q2⟩ := qr
              obtain ⟨k1', k2'⟩ := kr
              simp only at b1 x2 ek
              subst b1
              exact ⟨(k1', q2) :: kvv, by rw [d1, List.map_cons]; exact congrArg (· :: _) (Prod.ext ek rfl), .cons x2 d2⟩
  obtain ⟨kvv, d1, d2⟩ := go ps qs kvs r1 r2 e1 e2
  refine ⟨hp3, kvv, d1, by rw [← d2.length]; exact e3, ?_⟩
  have dr := dicOf_rep (K := X.K) (H := H3) d2 .nil
  have nt : ∀ (b : Addr) (xs : List V), Rd H3 b (.tup xs) → b ≠ p := fun b xs h z => by
    subst z
    rcases h with h | ⟨u, h⟩ <;> (rw [hp3] at h; cases h)
  -- the dict at p is written: seen from a clean heap that knows it as empty
  have R4 : Rel X.K cl H3 (cup C3 p (.dic [])) := fun b o hb => by
    by_cases z : b = p
    · subst z; rw [cup_same] at hb; cases hb; exact ⟨[], hp3, .nil⟩
    · rw [cup_ne z] at hb; exact R3 b o hb
  have kw : Keep H3 (cup C3 p (.dic [])) (upd H3 p (.dK (mergeK [] kvv))) (cup (cup C3 p (.dic [])) p (.dic (dicOf kvs))) := Keep.write cup_same _ _
  have R5 := R4.write (u' := .dic (dicOf kvs)) (o' := .dK (mergeK [] kvv)) cup_same hp3 (fun xs h => nt p xs h rfl) ⟨_, upd_same, dr.keep R4 kw⟩
  rw [cup_cup] at R5
  refine hq _ _ _ _ (h3 p hC3) (.ref p) R5 fun b o hb hn => ?_
  obtain ⟨z1, z2⟩ := (k1.trans k3) b o hb hn
  have nb : b ≠ p := ne_of_none hb hp
  exact ⟨by rw [upd_ne nb]; exact z1, by rw [cup_ne nb]; exact z2⟩

theorem kshape {np k : Nat} {g : List Src} {kn : Option (List Str)} {o : List Str → Option (Nat × List Src)} (h : shC kn k o np g = true) : ∃ ks, kn = some ks ∧ ks.length = k ∧ o ks = some (np, g) := by
  unfold shC at h
  cases kn with
  | none => cases h
  | some ks =>
    simp only [Bool.and_eq_true, decide_eq_true_eq] at h
    obtain ⟨h1, h2⟩ := h
    cases e : o ks with
    | none => rw [e] at h2; cases h2
    | some p =>
      obtain ⟨a, b⟩ := p
      rw [e] at h2
      simp only [Bool.and_eq_true, decide_eq_true_eq] at h2
      obtain ⟨h3, h4⟩ := h2
      exact ⟨ks, rfl, h1, by rw [e, h3, beqSs_eq h4]⟩
theorem room_mk {k n : Nat} {A : Around} (r : Room n A) (h : k + 1 ≤ n) : Room (k + 1) A := r.mono h
theorem lookup_mapv {α β : Type} {f : Str × α → Str × β} {g : Str → α → β} (hf : ∀ n k, f (n, k) = (n, g n k)) {x : Str} : ∀ {names : List (Str × α)}, (names.map f).lookup x = (names.lookup x).map (g x)
  | [] => rfl
  | (n, k) :: r => by
    rw [List.map_cons, hf, List.lookup_cons, List.lookup_cons, lookup_mapv hf]
    cases hb : x == n with
    | true =>
      have e : x = n := by simpa using hb
      subst e
      rfl
    | false => rfl
theorem rel_local {scope : Scope} {env : Env} {x : Str} {k : NameKind} (hk : (k == .free) = false) (h : scope.names.lookup x = some k) : (PySem.relabel scope env).names.lookup x = some k := by
  show (scope.names.map fun (n, k) => if (k == .free && env.scope.kind == .function && env.kindOf n == some .cell) then (n, .cell) else (n, k)).lookup x = some k
  rw [lookup_mapv (g := fun n k => if (k == .free && env.scope.kind == .function && env.kindOf n == some .cell) = true then .cell else k) (fun n k => by dsimp only; split <;> rfl), h]
  show some (if (k == .free && env.scope.kind == .function && env.kindOf x == some .cell) = true then .cell else k) = some k
  rw [hk]
  rfl
/-- the target of a comprehension -/
theorem blk_tg (ok : XOk P w K mg base n N sc top X) {scope : Scope} {tg : Expr} {T' : CT} (h : tgC N scope tg T' = true) {s : Shared} {H : Hp} {C : Addr} {cs : List (Str × Addr)} {fp : List Addr} :
    PG (X.blk s H scope (compEnvC scope cs C X.env) fp) tg (tgV K T') := by
  have one : ∀ x i, nmL N scope x i = true → (X.blk s H scope (compEnvC scope cs C X.env) fp).N[i]? = some x ∧ L2.Loc (X.blk s H scope (compEnvC scope cs C X.env) fp).env.scope x ∧ ((X.blk s H scope (compEnvC scope cs C X.env) fp).fn x = true ∨ (X.blk s H scope (compEnvC scope cs C X.env) fp).env.scope.names.lookup x = some .local) := fun x i hx => by
    obtain ⟨h1, h2⟩ := nmL_ok hx
    refine ⟨by show X.N[i]? = some x; rw [ok.N_]; exact h1, ?_, ?_⟩
    · rcases h2 with h2 | h2
      · exact .inl (rel_local rfl h2)
      · exact .inr (rel_local rfl h2)
    · rcases h2 with h2 | h2
      · exact .inr (rel_local rfl h2)
      · exact .inl (by show (scope.names.lookup x == some .cell) = true; rw [h2]; rfl)
  have nd : (X.blk s H scope (compEnvC scope cs C X.env) fp).N.Nodup := by show X.N.Nodup; rw [ok.N_]; exact ok.nd
  cases T' with
  | nm i =>
    unfold tgC at h
    simp only at h
    split at h
    · obtain ⟨a, b, c⟩ := one _ _ h
      exact pg_name nd a b c
    · cases h
  | tp is =>
    unfold tgC at h
    simp only at h
    split at h
    · rename_i xs k p
      simp only [Bool.and_eq_true, decide_eq_true_eq, List.all_eq_true] at h
      obtain ⟨hl, ha⟩ := h
      have ck : (X.blk s H scope (compEnvC scope cs C X.env) fp).K = K := ok.K_
      have len : ∀ (es : List Expr) (env : Env), (assignEach es env).length = es.length := fun es env => by
        induction es with
        | nil => rfl
        | cons e es ih => cases e <;> exact congrArg (· + 1) ih
      have names : ∀ e ∈ xs, ∃ x p, e = .Name x p := fun e he => by
        obtain ⟨j, hj, ej⟩ := List.getElem_of_mem he
        have := ha (e, is[j]'(by omega)) (by rw [← ej]; exact List.mem_of_getElem? (i := j) (by rw [List.getElem?_zip_eq_some]; exact ⟨List.getElem?_eq_getElem hj, List.getElem?_eq_getElem (by omega)⟩))
        cases e <;> first | exact ⟨_, _, rfl⟩ | (simp at this)
      have nostar : ∀ (es : List Expr) (env : Env), (∀ e ∈ es, ∃ x p, e = Expr.Name x p) → (assignEach es env).findIdx? (·.1) = none := fun es env => by
        induction es with
        | nil => intro _; rfl
        | cons e es ih =>
          intro hn
          obtain ⟨x, p, rfl⟩ := hn e List.mem_cons_self
          show List.findIdx? (·.1) ((false, _) :: assignEach es env) = none
          rw [List.findIdx?_cons]
          simp [ih fun e he => hn e (List.mem_cons_of_mem _ he)]
      have all := pgs_all (X := X.blk s H scope (compEnvC scope cs C X.env) fp) nd hl fun j e i a b => by
        have := ha (e, i) (List.mem_of_getElem? (i := j) (by rw [List.getElem?_zip_eq_some]; exact ⟨a, b⟩))
        cases e <;> first | (obtain ⟨a1, a2, a3⟩ := one _ _ this; exact ⟨_, _, rfl, a1, a2, a3⟩) | (simp at this)
      have := pg_tup (X := X.blk s H scope (compEnvC scope cs C X.env) fp) (k := k) (pos := p) (n := is.length) ok.calm all (by rw [len]; exact hl) (nostar _ _ names)
      rw [ck] at this
      exact this
    · cases h
theorem meth_tree {o : Expr} {m : Str} {apos pos : Pos} {es : List Expr} {kws : List Keyword} {ks : List Str} {env : Env} (hb : noSuper o = true) (hes : es.all notStar = true) (hks : kwNames kws = some ks) (hfew : es.length + kws.length + 1 < 30) (hline : (apos.endLine == pos.line) = true) :
    eval (.Call (.Attribute o m apos) es kws pos) env = (do
      let ov ← eval o env
      standAt apos.atName
      let (f, first) ← holding [ov] (getMethod ov m (do return (← importBound o env).getD true))
      callWith pos f first (backTo pos (starEach es env)) (backToKw pos (keywordEach kws env))) := by
  refine mcall_of (base_of hb) fun ov => ?_
  have e1 : (backTo pos (starEach es env)).all (!·.1) = true := by
    have := star_any (env := env) (pos := pos) hes
    rw [List.all_eq_not_any_not]
    simpa using this
  have e : methodCallForm (es.length + kws.length) (backTo pos (starEach es env)) (backToKw pos (keywordEach kws env)) = true := by
    unfold methodCallForm
    rw [e1, (kw_ok hks).1]
    simp only [Bool.true_and, decide_eq_true_eq]
    split <;> omega
  unfold methodCall methodCallPos
  rw [e, hline]
  rfl
end
end L3

namespace L3
open PySem L2
section
variable {T : Tab} {P : Program} {w : World} {K : PySem.W.Frag} {mg : Str → Option Value} {base : Heap} {cl : ClsT} {G : G3} {n : Nat} {N : List Str}
theorem blk_ok {top : Bool} {X : Cx} {sc scope : Scope} {s : Shared} {H : Hp} {C : Addr} {cs : List (Str × Addr)} {fp : List Addr} (ok : XOk P w K mg base n N sc top X) (hk : scope.kind = .function) : XOk P w K mg base n N (relS scope sc) false (X.blk s H scope (compEnvC scope cs C X.env) fp) := by
  refine ⟨ok.P_, ok.w_, ok.K_, ok.mg_, ok.base_, ok.N_, ok.nd, ?_, hk, ok.calm, ok.room, fun z => (nomatch z), PassesOwn.never, ok.gd, fun z => (nomatch z)⟩
  show PySem.relabel scope X.env = relS scope sc
  rw [← ok.sc_]
  rfl
theorem plain_if {c a b : Expr} {p : Pos} {env : Env} : True := trivial
theorem chk_sound (F : Facts T P w K mg base cl G n) : ∀ fuel sc e c, (chkE T N fuel sc e c = true → SndE P w K mg base cl G n N sc e c) ∧ (chkT T N fuel sc e c = true → SndT P w K mg base cl G n N sc e c)
  | 0, sc, e, c => ⟨fun h => by simp [chkE] at h, fun h => by simp [chkT] at h⟩
  | fuel + 1, sc, e, c => by
    have ihE : ∀ e c, chkE T N fuel sc e c = true → SndE P w K mg base cl G n N sc e c := fun e c => (chk_sound F fuel sc e c).1
    have ihT : ∀ e c, chkT T N fuel sc e c = true → SndT P w K mg base cl G n N sc e c := fun e c => (chk_sound F fuel sc e c).2
    refine ⟨fun h top X H0 C0 ex ok tk => ?_, fun h top X H0 C0 ex ok tk => ?_⟩
    · have go : ∀ {e c}, chkE T N fuel sc e c = true → CPE X cl H0 C0 e (rdE G ex c) := fun h => ihE _ _ h top X H0 C0 ex ok tk
      have goT : ∀ {e c}, chkT T N fuel sc e c = true → CPT X cl H0 C0 e (rdT G ex c) := fun h => ihT _ _ h top X H0 C0 ex ok tk
      have hu : X.A.units + 1 < cLine := hu_of ok.room
      cases c with
      | var i =>
        simp only [chkE] at h
        split at h
        · obtain ⟨h1, h2, h3, h4⟩ := nmV_ok h
          exact cpe_var (by rw [ok.N_]; exact h1) (by rw [ok.sc_]; exact h2) h3 h4
        · cases h
      | cst d =>
        simp only [chkE] at h
        split at h
        · split at h
          · exact cpe_non
          · rw [eq_of_beq h]; exact cpe_bl
          · rw [eq_of_beq h]; exact cpe_int
          · rw [of_decide_eq_true h]; exact cpe_str
          · cases h
        · cases h
      | glb x d =>
        simp only [chkE] at h
        split at h
        · simp only [Bool.and_eq_true, decide_eq_true_eq] at h
          obtain ⟨⟨h1, h2⟩, h3⟩ := h
          subst h1
          obtain ⟨g1, g2⟩ := glN_ok ok.sc_ h2
          split at h3
          · rename_i d' hd
            obtain ⟨u, v, m1, m2, m3⟩ := F.glb _ _ hd
            rw [← beqD_eq h3] at m3
            rw [← ok.mg_] at m1
            rw [← ok.K_] at m3
            exact cpe_glob g1 m1 m2 m3 g2
          · cases h3
        · cases h
      | bin o a b =>
        simp only [chkE] at h
        split at h
        · simp only [Bool.and_eq_true, decide_eq_true_eq] at h
          obtain ⟨⟨h1, h2⟩, h3⟩ := h
          subst h1
          obtain ⟨r, r1, r2⟩ := semB_ok (X := X) (cl := cl) o
          exact cpe_bin r1 r2 (go h2) (go h3)
        · cases h
      | neg a =>
        simp only [chkE] at h
        split at h
        · exact cpe_un un_neg lk_neg (go h)
        · cases h
      | cmp o a b =>
        simp only [chkE] at h
        split at h
        · simp only [Bool.and_eq_true, decide_eq_true_eq] at h
          obtain ⟨⟨⟨h1, h2⟩, h3⟩, h4⟩ := h
          subst h1
          obtain ⟨r, r1, r2⟩ := semC_ok (cl := cl) (by rw [F.clP, ok.P_]) (by rw [F.clw, ok.w_]) F.lv ok.room o
          exact cpe_cmp r1 r2 (go h3) (go h4) (notSet_mark h2)
        · cases h
      | chain o o' a b c =>
        simp only [chkE] at h
        split at h
        · simp only [Bool.and_eq_true, decide_eq_true_eq] at h
          obtain ⟨⟨⟨⟨⟨h1, h1'⟩, h2⟩, h3⟩, h4⟩, h5⟩ := h
          subst h1; subst h1'
          obtain ⟨r, r1, r2⟩ := semC_ok (cl := cl) (by rw [F.clP, ok.P_]) (by rw [F.clw, ok.w_]) F.lv ok.room o
          obtain ⟨r', r1', r2'⟩ := semC_ok (cl := cl) (by rw [F.clP, ok.P_]) (by rw [F.clw, ok.w_]) F.lv ok.room o'
          exact cpe_chain r1 r1' r2 r2' (go h3) (go h4) (go h5) (notSet_mark h2)
        · cases h
      | and a b =>
        simp only [chkE] at h
        split at h
        · exact snd_boolE_and ok tk (fun e c h => ihE e c h) h
        · cases h
      | or a b =>
        simp only [chkE] at h
        split at h
        · exact snd_boolE_or ok tk (fun e c h => ihE e c h) h
        · cases h
      | not a =>
        simp only [chkE] at h
        split at h
        · exact cpe_not (go h)
        · cases h
      | ite t a b =>
        simp only [chkE] at h
        split at h
        · simp only [Bool.and_eq_true] at h
          obtain ⟨⟨h1, h2⟩, h3⟩ := h
          exact cpe_if (goT h1) (go h2) (go h3)
        · cases h
      | tup es =>
        simp only [chkE] at h
        split at h
        · exact cpe_tup (snd_args ok tk ihE h).1
        · cases h
      | lst es =>
        simp only [chkE] at h
        split at h
        · exact cpe_lst (snd_args ok tk ihE h).1
        · cases h
      | dic ks vs =>
        simp only [chkE] at h
        split at h
        · simp only [Bool.and_eq_true, decide_eq_true_eq, Bool.not_eq_true'] at h
          obtain ⟨⟨⟨h1, h2⟩, h3⟩, h4⟩ := h
          exact cpe_dic ok tk ihE h1 (fun z => by rw [z] at h2; cases h2) h3 h4
        · cases h
      | idx a b =>
        simp only [chkE] at h
        split at h
        · simp only [Bool.and_eq_true] at h
          obtain ⟨⟨h1, h2⟩, h3⟩ := h
          exact cpe_ix hu (go h1) (go h2) h3
        · cases h
      | idxK a b =>
        simp only [chkE] at h
        split at h
        · simp only [Bool.and_eq_true] at h
          obtain ⟨⟨h1, h2⟩, h3⟩ := h
          exact cpe_ixK (by rw [F.clP, ok.P_]) (by rw [F.clw, ok.w_]) (by have := ok.room.un; have := F.lv; omega) (go h1) (go h2) h3
        · cases h
      | rev a =>
        simp only [chkE] at h
        split at h
        · exact cpe_rev (go h)
        · cases h
      | dtk0 =>
        simp only [chkE] at h
        split at h
        · exact cpe_dtk0 (by rw [F.clP, ok.P_]) (by rw [F.clw, ok.w_])
        · cases h
      | dtk1 a b =>
        simp only [chkE] at h
        split at h
        · simp only [Bool.and_eq_true] at h
          exact cpe_dtk1 (by rw [F.clP, ok.P_]) (by rw [F.clw, ok.w_]) (by have := ok.room.un; have := F.lv; omega) (go h.1) (go h.2)
        · cases h
      | nev => exact cpe_nev
      | slice a lo hi =>
        simp only [chkE] at h
        split at h
        · simp only [Bool.and_eq_true] at h
          obtain ⟨⟨h1, h2⟩, h3⟩ := h
          exact cpe_slice (go h1) (snd_o ok tk ihE h2) (snd_o ok tk ihE h3)
        · cases h
      | call f np m k g es ks =>
        simp only [chkE] at h
        split at h
        · simp only [Bool.and_eq_true, decide_eq_true_eq] at h
          obtain ⟨⟨⟨⟨h1, h2⟩, h3⟩, h4⟩, h5⟩ := h
          obtain ⟨g1, g2⟩ := glN_ok ok.sc_ h1
          obtain ⟨kn, e1, e2, e3⟩ := kshape h3
          obtain ⟨a, m1, m2, fd, ps, np', F1, F2⟩ := F.fn _ _ h2
          obtain ⟨rfl, B⟩ := F2 _ _ _ _ e3
          obtain ⟨A, A1, A2, A3⟩ := snd_args ok tk ihE h4
          obtain ⟨rfl, rfl, rfl, rfl, rfl⟩ := (⟨ok.P_, ok.w_, ok.K_, ok.mg_, ok.base_⟩ : X.prog = P ∧ X.w = w ∧ X.K = K ∧ X.mg = mg ∧ X.base = base)
          subst e2
          exact cpe_call F1 ok.room ok.gd g1 m1 m2 B tk A1 e1 A (snd_kws ok tk ihE h5) A3 g2
        · cases h
      | make c f np m k g es ks =>
        simp only [chkE] at h
        split at h
        · simp only [Bool.and_eq_true, decide_eq_true_eq] at h
          obtain ⟨⟨⟨⟨⟨h1, h2⟩, h2'⟩, h3⟩, h4⟩, h5⟩ := h
          obtain ⟨g1, g2⟩ := glN_ok ok.sc_ h1
          obtain ⟨kn, e1, e2, e3⟩ := kshape h3
          obtain ⟨Ca, c1, c2⟩ := F.cls _ _ h2
          obtain ⟨Ca', a, c3, M, fd, ps, np', F1, F2⟩ := F.init _ _ h2'
          rw [c1] at c3; cases c3
          obtain ⟨rfl, B⟩ := F2 _ _ _ _ e3
          obtain ⟨A, A1, A2, A3⟩ := snd_args ok tk ihE h4
          obtain ⟨rfl, rfl, rfl, rfl, rfl⟩ := (⟨ok.P_, ok.w_, ok.K_, ok.mg_, ok.base_⟩ : X.prog = P ∧ X.w = w ∧ X.K = K ∧ X.mg = mg ∧ X.base = base)
          subst e2
          rcases F1 with F1 | ⟨k1, F1, hk⟩
          · exact cpe_make (k := 0) c1 M (.inl F1) ok.gd g1 c2 B tk A1 e1 A (snd_kws ok tk ihE h5) A3 g2
          · exact cpe_make (k := k1) c1 M (.inr ⟨F1, ok.room.mono hk⟩) ok.gd g1 c2 B tk A1 e1 A (snd_kws ok tk ihE h5) A3 g2
        · cases h
      | meth c nm f np m k g o es ks =>
        simp only [chkE] at h
        split at h
        · simp only [Bool.and_eq_true, decide_eq_true_eq] at h
          obtain ⟨⟨⟨⟨⟨⟨⟨⟨hl, hf⟩, h1⟩, h2⟩, h3⟩, h4⟩, h5⟩, h6⟩, h7⟩ := h
          subst h1
          obtain ⟨kn, e1, e2, e3⟩ := kshape h3
          obtain ⟨Ca, a, c1, c2, c3, fd, ps, np', F1, F2⟩ := F.mth _ _ _ h2
          obtain ⟨rfl, B⟩ := F2 _ _ _ _ e3
          obtain ⟨A, A1, A2, A3⟩ := snd_args ok tk ihE h5
          obtain ⟨rfl, rfl, rfl, rfl, rfl⟩ := (⟨ok.P_, ok.w_, ok.K_, ok.mg_, ok.base_⟩ : X.prog = P ∧ X.w = w ∧ X.K = K ∧ X.mg = mg ∧ X.base = base)
          subst e2
          exact cpe_meth c1 (go h4) c2 c3 F1 ok.room ok.gd B tk A1 e1 A (snd_kws ok tk ihE h6) A3 (meth_tree h7 A1 e1 hf hl)
        · cases h
      | isi u a =>
        simp only [chkE] at h
        split at h
        · simp only [Bool.and_eq_true, decide_eq_true_eq] at h
          obtain ⟨⟨⟨⟨⟨h1, h2⟩, h3⟩, h4⟩, h5⟩, h6⟩ := h
          subst h1
          obtain ⟨g1, g2⟩ := glN_ok ok.sc_ h2
          have hm := F.blt _ h3
          rw [← ok.mg_] at hm
          unfold isiC at h6
          split at h6
          · rename_i x' p'
            simp only [Bool.and_eq_true] at h6
            obtain ⟨⟨k1, k2⟩, k3⟩ := h6
            obtain ⟨g3, g4⟩ := glN_ok ok.sc_ k1
            obtain ⟨rfl, rfl, rfl, rfl, rfl⟩ := (⟨ok.P_, ok.w_, ok.K_, ok.mg_, ok.base_⟩ : X.prog = P ∧ X.w = w ∧ X.K = K ∧ X.mg = mg ∧ X.base = base)
            split at k3
            · rename_i nm
              simp only [Bool.and_eq_true, decide_eq_true_eq, Bool.not_eq_true', decide_eq_false_iff_not] at k3
              obtain ⟨⟨l1, l2⟩, l3⟩ := k3
              exact cpe_isi (vc := .ty nm) F.kit (fun c Ca b z1 z2 => F.kitc c _ b Ca z1 z2) (go h4) (pe_bltn g3 (F.blt _ l1) l2 rfl l3 g4) (fun w' hw => by cases hw; exact .ty nm) g1 hm h5 k2
            · rename_i kc
              have l1 := of_decide_eq_true k3
              obtain ⟨Ca, c1, c2⟩ := F.cls _ _ l1
              exact cpe_isi (vc := .ref Ca) F.kit (fun c Ca b z1 z2 => F.kitc c _ b Ca z1 z2) (go h4) (pe_glob g3 c2 rfl g4) (fun w' hw => by
                have hw' : (cl kc).map Value.ref = some w' := hw
                rw [c1] at hw'
                cases hw'
                exact .own Ca) g1 hm h5 k2
          · cases h6
        · cases h
      | bi b es =>
        simp only [chkE] at h
        split at h
        · rename_i x0 p0 xs pos0
          simp only [Bool.and_eq_true, decide_eq_true_eq] at h
          obtain ⟨⟨⟨⟨h1, h2⟩, h3⟩, h4⟩, h5⟩ := h
          subst h1
          obtain ⟨g1, g2⟩ := glN_ok ok.sc_ h2
          have hm := F.blt _ h3
          rw [← ok.mg_] at hm
          obtain ⟨A, A1, A2, A3⟩ := snd_args ok tk ihE h5
          obtain ⟨r, hr, l⟩ := semBI_ok (X := X) (cl := cl) ok.calm ok.gd F.lv ok.room b
          have hn : biN b ≠ ("__name__" : Str) := by cases b <;> decide +kernel
          cases xs with
          | nil => cases b <;> simp [biA] at h4
          | cons x xs =>
            rw [List.all_cons, Bool.and_eq_true] at A1
            rcases hr with ⟨hc, hv⟩ | ⟨hc, hv⟩
            · exact cpe_callB hc l g1 hm hv A hn g2 (star_of A1.1) (star_any A1.2)
            · exact cpe_callTy hc l g1 hm hv A hn g2 (star_of A1.1) (star_any A1.2)
        · cases h
      | eqO c f np g ne a b =>
        simp only [chkE] at h
        split at h
        · simp only [Bool.and_eq_true, decide_eq_true_eq] at h
          obtain ⟨⟨⟨⟨⟨⟨h1, h2⟩, h3⟩, h4⟩, h5⟩, h6⟩, h7⟩ := h
          obtain ⟨kn, e1, e2, e3⟩ := kshape h4
          cases e1
          obtain ⟨Ca, fa, c1, O, fd, ps, np', k1, F1, hk, F2⟩ := F.own _ _ h3
          obtain ⟨rfl, B⟩ := F2 _ _ _ _ e3
          obtain ⟨rfl, rfl, rfl, rfl, rfl⟩ := (⟨ok.P_, ok.w_, ok.K_, ok.mg_, ok.base_⟩ : X.prog = P ∧ X.w = w ∧ X.K = K ∧ X.mg = mg ∧ X.base = base)
          subst h1
          cases ne with
          | true => exact cpe_neO c1 O F1 (ok.room.mono hk) ok.gd B h5 (go h6) (go h7) (notSet_mark h2)
          | false => exact cpe_eqO c1 O F1 (ok.room.mono hk) ok.gd B h5 (go h6) (go h7) (notSet_mark h2)
        · cases h
      | orO c f np g a b =>
        simp only [chkE] at h
        split at h
        · simp only [Bool.and_eq_true, decide_eq_true_eq] at h
          obtain ⟨⟨⟨⟨h3, h4⟩, h5⟩, h6⟩, h7⟩ := h
          obtain ⟨kn, e1, e2, e3⟩ := kshape h4
          cases e1
          obtain ⟨Ca, fa, c1, O, fd, ps, np', F1, F2⟩ := F.ownB _ _ h3
          obtain ⟨rfl, B⟩ := F2 _ _ _ _ e3
          obtain ⟨rfl, rfl, rfl, rfl, rfl⟩ := (⟨ok.P_, ok.w_, ok.K_, ok.mg_, ok.base_⟩ : X.prog = P ∧ X.w = w ∧ X.K = K ∧ X.mg = mg ∧ X.base = base)
          exact cpe_orO c1 O.mt O.sf F1 ok.room ok.gd B tk (go h6) (go h7)
        · cases h
      | tupS a b =>
        simp only [chkE] at h
        split at h
        · simp only [Bool.and_eq_true] at h
          obtain ⟨⟨h1, h2⟩, h3⟩ := h
          exact cpe_tupS (go h2) (go h3) (star_of h1)
        · cases h
      | lenO c f np g a =>
        simp only [chkE] at h
        split at h
        · simp only [Bool.and_eq_true, decide_eq_true_eq] at h
          obtain ⟨⟨⟨⟨⟨⟨⟨h1, h2⟩, h3⟩, h4⟩, h5⟩, h6⟩, h7⟩, h8⟩ := h
          subst h1
          obtain ⟨g1, g2⟩ := glN_ok ok.sc_ h2
          have hm := F.blt _ h3
          rw [← ok.mg_] at hm
          obtain ⟨kn, e1, e2, e3⟩ := kshape h5
          cases e1
          obtain ⟨Ca, fa, c1, O, fd, ps, np', k1, F1, hk, F2⟩ := F.ownL _ _ h4
          obtain ⟨rfl, B⟩ := F2 _ _ _ _ e3
          obtain ⟨rfl, rfl, rfl, rfl, rfl⟩ := (⟨ok.P_, ok.w_, ok.K_, ok.mg_, ok.base_⟩ : X.prog = P ∧ X.w = w ∧ X.K = K ∧ X.mg = mg ∧ X.base = base)
          exact cpe_lenO c1 O F1 (ok.room.mono hk) ok.gd B h6 g1 hm (cpa_cons (go h8) cpa_nil (star_of h7)) h7
        · cases h
      | srt a =>
        simp only [chkE] at h
        split at h
        · simp only [Bool.and_eq_true, decide_eq_true_eq] at h
          obtain ⟨⟨⟨⟨⟨⟨⟨h1, h2⟩, h3⟩, h4⟩, h5⟩, h6⟩, h7⟩, h8⟩ := h
          subst h1
          subst h4
          obtain ⟨g1, g2⟩ := glN_ok ok.sc_ h2
          obtain ⟨g3, g4⟩ := glN_ok ok.sc_ h5
          have hm := F.blt _ h3
          have hm2 := F.blt _ h6
          rw [← ok.mg_] at hm hm2
          exact cpe_srt ok.calm g1 hm g3 hm2 (go h8) (star_of h7) (star_of rfl)
        · cases h
      | lzip a b =>
        simp only [chkE] at h
        split at h
        · simp only [Bool.and_eq_true, decide_eq_true_eq] at h
          obtain ⟨⟨⟨⟨⟨⟨⟨⟨⟨h1, h2⟩, h3⟩, h4⟩, h5⟩, h6⟩, h7⟩, h8⟩, h9⟩, h10⟩ := h
          subst h1
          subst h4
          obtain ⟨g1, g2⟩ := glN_ok ok.sc_ h2
          obtain ⟨g3, g4⟩ := glN_ok ok.sc_ h5
          have hm := F.blt _ h3
          have hm2 := F.blt _ h6
          rw [← ok.mg_] at hm hm2
          exact cpe_lzip ok.calm g1 hm g3 hm2 (cpa_cons (go h9) (cpa_cons (go h10) cpa_nil (star_of h8)) (star_of h7)) h7 h8
        · cases h
      | mt m o es =>
        simp only [chkE] at h
        split at h
        · simp only [Bool.and_eq_true, decide_eq_true_eq] at h
          obtain ⟨⟨⟨⟨⟨h1, h2⟩, h3⟩, h4⟩, h5⟩, h6⟩ := h
          subst h1
          obtain ⟨A, A1, A2, A3⟩ := snd_args ok tk ihE h4
          have hl : ∀ {j : Nat}, miA m j = true → j < 30 := fun {j} z => by
            cases m <;> (simp only [miA, beq_iff_eq] at z; omega)
          have hl' := hl h2
          cases m with
          | append => exact cpe_mt PySem.F.plainAttrs_list PySem.F.slot_list_append PySem.F.type_list_append mt_append lk_append lkTy_lst (go h3) A A3 A1 hl' h5 h6
          | extend => exact cpe_mt PySem.F.plainAttrs_list PySem.F.slot_list_extend PySem.F.type_list_extend (MtR.or mt_extend mt_extendT) lk_extendA lkTy_lst (go h3) A A3 A1 hl' h5 h6
          | pop => exact cpe_mt PySem.F.plainAttrs_list PySem.F.slot_list_pop PySem.F.type_list_pop mt_pop lk_pop lkTy_lst (go h3) A A3 A1 hl' h5 h6
          | popAt => exact cpe_mt PySem.F.plainAttrs_list PySem.F.slot_list_pop PySem.F.type_list_pop mt_popAt lk_popAt lkTy_lst (go h3) A A3 A1 hl' h5 h6
          | join => exact cpe_mt PySem.F.plainAttrs_str PySem.F.slot_str_join PySem.F.type_str_join mt_join lk_join lkTy_str (go h3) A A3 A1 hl' h5 h6
        · cases h
      | attr cs f o =>
        simp only [chkE] at h
        split at h
        · simp only [Bool.and_eq_true, decide_eq_true_eq, List.all_eq_true] at h
          obtain ⟨⟨⟨h1, h2⟩, h3⟩, h4⟩ := h
          subst h1
          exact cpe_attr (fun c Ca hc hcl => by rw [ok.K_]; exact F.attr c _ Ca (h2 c hc) hcl) (go h3) h4
        · cases h
      | lc c T' vs k it ifs =>
        simp only [chkE] at h
        split at h
        · simp only [Bool.and_eq_true, decide_eq_true_eq] at h
          obtain ⟨⟨⟨⟨⟨⟨⟨⟨h1, h2⟩, h3⟩, h4⟩, h5⟩, h6⟩, h7⟩, h8⟩, h9⟩ := h
          subst h1
          rename_i elt tg iter ifs' scope pos
          obtain ⟨I1, I2⟩ := snd_it (tg := tg) F ok tk ihE h6
          have hk : scope.kind = .function := by
            unfold blkC at h2
            simp only [Bool.and_eq_true] at h2
            have := h2.1.1.1
            split at this
            · assumption
            · cases this
          have ev : ((tgNs tg).zip T'.slots).map (·.2) = T'.slots := by
            rw [List.map_snd_zip]
            omega
          have q := cpe_lc (X := X) (cl := cl) (H0 := H0) (C0 := C0) (pos := pos) (own := (tgNs tg).zip T'.slots) (T := T') (scope := scope) ok.calm (by rw [ok.N_]; exact ok.nd) I1 (by rw [ok.N_, ok.sc_]; exact blkOk_by h2) (by rw [ev]; exact fun i hi => hi)
            (fun s H C cs fp => by rw [ok.K_]; exact blk_tg ok h5) (fun s H C cs fp => snd_ifs (blk_ok ok hk) takes_bot (fun e c => (chk_sound F fuel (relS scope sc) e c).2) h7)
            (fun s H C cs fp => (chk_sound F fuel (relS scope sc) _ _).1 h8 _ _ H0 C0 _ (blk_ok ok hk) takes_bot) (notSet_fold h9)
          rw [ev] at q
          rw [h3]
          exact q
        · cases h
    · have go : ∀ {e c}, chkE T N fuel sc e c = true → CPE X cl H0 C0 e (rdE G ex c) := fun h => ihE _ _ h top X H0 C0 ex ok tk
      have goT : ∀ {e c}, chkT T N fuel sc e c = true → CPT X cl H0 C0 e (rdT G ex c) := fun h => ihT _ _ h top X H0 C0 ex ok tk
      cases c with
      | and a b =>
        simp only [chkT] at h
        split at h
        · exact (snd_boolT_and ok tk (fun e c h => ihT e c h) h).pt
        · cases h
      | or a b =>
        simp only [chkT] at h
        split at h
        · exact (snd_boolT_or ok tk (fun e c h => ihT e c h) h).pt
        · cases h
      | not a =>
        simp only [chkT] at h
        split at h
        · exact cpt_not (goT h)
        · cases h
      | cmp o a b =>
        simp only [chkT] at h
        split at h
        · simp only [Bool.and_eq_true, decide_eq_true_eq] at h
          obtain ⟨⟨⟨h1, h2⟩, h3⟩, h4⟩ := h
          subst h1
          obtain ⟨r, r1, r2⟩ := semC_ok (cl := cl) (by rw [F.clP, ok.P_]) (by rw [F.clw, ok.w_]) F.lv ok.room o
          exact cpt_cmp r1 r2 (go h3) (go h4) (notSet_mark h2)
        · cases h
      | chain o o' a b c =>
        simp only [chkT] at h
        split at h
        · simp only [Bool.and_eq_true, decide_eq_true_eq] at h
          obtain ⟨⟨⟨⟨⟨h1, h1'⟩, h2⟩, h3⟩, h4⟩, h5⟩ := h
          subst h1; subst h1'
          obtain ⟨r, r1, r2⟩ := semC_ok (cl := cl) (by rw [F.clP, ok.P_]) (by rw [F.clw, ok.w_]) F.lv ok.room o
          obtain ⟨r', r1', r2'⟩ := semC_ok (cl := cl) (by rw [F.clP, ok.P_]) (by rw [F.clw, ok.w_]) F.lv ok.room o'
          exact cpt_chain r1 r1' r2 r2' (go h3) (go h4) (go h5) (notSet_mark h2)
        · cases h
      | eqO c f np g ne a b =>
        simp only [chkT] at h
        split at h
        · simp only [Bool.and_eq_true, decide_eq_true_eq] at h
          obtain ⟨⟨⟨⟨⟨⟨h1, h2⟩, h3⟩, h4⟩, h5⟩, h6⟩, h7⟩ := h
          obtain ⟨kn, e1, e2, e3⟩ := kshape h4
          cases e1
          obtain ⟨Ca, fa, c1, O, fd, ps, np', k1, F1, hk, F2⟩ := F.own _ _ h3
          obtain ⟨rfl, B⟩ := F2 _ _ _ _ e3
          obtain ⟨rfl, rfl, rfl, rfl, rfl⟩ := (⟨ok.P_, ok.w_, ok.K_, ok.mg_, ok.base_⟩ : X.prog = P ∧ X.w = w ∧ X.K = K ∧ X.mg = mg ∧ X.base = base)
          subst h1
          cases ne with
          | true => exact cpt_neO c1 O F1 (ok.room.mono hk) ok.gd B h5 (go h6) (go h7) (notSet_mark h2)
          | false => exact cpt_eqO c1 O F1 (ok.room.mono hk) ok.gd B h5 (go h6) (go h7) (notSet_mark h2)
        · cases h
      | _ =>
        simp only [chkT, Bool.and_eq_true] at h
        exact cpt_val (go h.2) (plain_of h.1)
/-! ### statements -/
def SndS (P : Program) (w : World) (K : PySem.W.Frag) (mg : Str → Option Value) (base : Heap) (cl : ClsT) (G : G3) (n : Nat) (N : List Str) (sc : Scope) (s : Stmt) (c : CS) : Prop :=
  ∀ X H0 C0 ex, XOk P w K mg base n N sc true X → Takes X (WC K cl H0 C0 ex) → CPS X cl H0 C0 s (rdS G ex c)
theorem snd_ss {sc : Scope} {X : Cx} {H0 : Hp} {C0 : CH} {ex : Kxs} {f : Stmt → CS → Bool} (hf : ∀ s c, f s c = true → CPS X cl H0 C0 s (rdS G ex c)) : ∀ {ss : List Stmt} {cs : List CS}, chkSs f ss cs = true → CPSs X cl H0 C0 ss (rdSs G ex cs)
  | [], [], _ => cpss_nil
  | s :: ss, c :: cs, h => by
    simp only [chkSs, Bool.and_eq_true] at h
    exact cpss_cons (hf _ _ h.1) (snd_ss (sc := sc) hf h.2)
  | [], _ :: _, h => by simp [chkSs] at h
  | _ :: _, [], h => by simp [chkSs] at h
theorem top_tg {X : Cx} {sc : Scope} (ok : XOk P w K mg base n N sc true X) {tg : Expr} {T' : CT} (h : tgC N sc tg T' = true) : PG X tg (tgV X.K T') ∧ (assignEach [tg] X.env).map (·.2) = [assign tg X.env] := by
  have one : ∀ x i, nmL N sc x i = true → X.N[i]? = some x ∧ L2.Loc X.env.scope x ∧ (X.fn x = true ∨ X.env.scope.names.lookup x = some .local) := fun x i hx => by
    obtain ⟨h1, h2⟩ := nmL_ok hx
    rw [ok.N_, ok.sc_]
    exact ⟨h1, h2, ok.loc rfl x h2⟩
  have nd : X.N.Nodup := by rw [ok.N_]; exact ok.nd
  cases T' with
  | nm i =>
    unfold tgC at h
    simp only at h
    split at h
    · obtain ⟨a, b, c⟩ := one _ _ h
      exact ⟨pg_name nd a b c, rfl⟩
    · cases h
  | tp is =>
    unfold tgC at h
    simp only at h
    split at h
    · rename_i xs k p
      simp only [Bool.and_eq_true, decide_eq_true_eq, List.all_eq_true] at h
      obtain ⟨hl, ha⟩ := h
      have len : ∀ (es : List Expr) (env : Env), (assignEach es env).length = es.length := fun es env => by
        induction es with
        | nil => rfl
        | cons e es ih => cases e <;> exact congrArg (· + 1) ih
      have names : ∀ e ∈ xs, ∃ x p, e = .Name x p := fun e he => by
        obtain ⟨j, hj, ej⟩ := List.getElem_of_mem he
        have := ha (e, is[j]'(by omega)) (by rw [← ej]; exact List.mem_of_getElem? (i := j) (by rw [List.getElem?_zip_eq_some]; exact ⟨List.getElem?_eq_getElem hj, List.getElem?_eq_getElem (by omega)⟩))
        cases e <;> first | exact ⟨_, _, rfl⟩ | (simp at this)
      have nostar : ∀ (es : List Expr) (env : Env), (∀ e ∈ es, ∃ x p, e = Expr.Name x p) → (assignEach es env).findIdx? (·.1) = none := fun es env => by
        induction es with
        | nil => intro _; rfl
        | cons e es ih =>
          intro hn
          obtain ⟨x, p, rfl⟩ := hn e List.mem_cons_self
          show List.findIdx? (·.1) ((false, _) :: assignEach es env) = none
          rw [List.findIdx?_cons]
          simp [ih fun e he => hn e (List.mem_cons_of_mem _ he)]
      have all := pgs_all (X := X) nd hl fun j e i a b => by
        have := ha (e, i) (List.mem_of_getElem? (i := j) (by rw [List.getElem?_zip_eq_some]; exact ⟨a, b⟩))
        cases e <;> first | (obtain ⟨a1, a2, a3⟩ := one _ _ this; exact ⟨_, _, rfl, a1, a2, a3⟩) | (simp at this)
      exact ⟨pg_tup (X := X) (k := k) (pos := p) (n := is.length) ok.calm all (by rw [len]; exact hl) (nostar _ _ names), rfl⟩
    · cases h
theorem sole_none {tg e : Expr} {l : Nat} {env : Env} (h : notComp e = true) : swapsWithSole [tg] e l env = pure false := swap_none h
theorem swapped_none {tg e : Expr} {env : Env} (h : (match e with | .Tuple .. => false | _ => true) = true) : swappedStores [tg] e env = pure none := by
  unfold swappedStores
  cases e <;> first | (cases h; done) | (cases tg <;> rfl)
theorem filterMap_lt {α β : Type} (f : α → Option β) : ∀ {xs : List α} {x : α}, x ∈ xs → f x = none → (xs.filterMap f).length < xs.length
  | y :: ys, x, hm, hf => by
    have hle := List.length_filterMap_le f ys
    rcases List.mem_cons.mp hm with e | hm
    · subst e
      rw [List.filterMap_cons, hf]
      show (ys.filterMap f).length < ys.length + 1
      omega
    · have := filterMap_lt f hm hf
      rw [List.filterMap_cons]
      cases f y with
      | none => show (ys.filterMap f).length < ys.length + 1; omega
      | some z => show (ys.filterMap f).length + 1 < ys.length + 1; omega
theorem swapped_none2 {xs : List Expr} {k : Nat} {tp : Pos} {e : Expr} {env : Env} (h : (match e with | .Tuple .. => decide (4 ≤ xs.length) || xs.any (fun z => match z with | .Name y _ => !decide (env.scope.names.lookup y = some .local) | _ => false) | _ => true) = true) : swappedStores [.Tuple xs k tp] e env = pure none := by
  cases e with
  | Tuple es k2 p2 =>
    simp only [Bool.or_eq_true, decide_eq_true_eq, List.any_eq_true] at h
    unfold swappedStores
    simp only
    by_cases c1 : (!(xs.length == 2 || xs.length == 3) || es.length != xs.length || env.blockKind != .function) = true
    · rw [if_pos c1]
    · rw [if_neg c1]
      by_cases c2 : (es.any fun x => match x with | .Starred .. => true | _ => false) = true
      · exact if_pos c2
      · refine (if_neg c2).trans ?_
        rcases h with h | ⟨z, hz, h⟩
        · exfalso
          apply c1
          have a1 : (xs.length == 2) = false := by simpa using (by omega : xs.length ≠ 2)
          have a2 : (xs.length == 3) = false := by simpa using (by omega : xs.length ≠ 3)
          rw [a1, a2]
          rfl
        · refine if_pos ?_
          rw [Bool.or_eq_true]
          left
          have := filterMap_lt (fun x => match x with
            | .Name id pos => if (env.kindOf id == some NameKind.local && pos.line == (Option.map (fun x => x.pos.line) xs.head?).getD 0) = true then some id else none
            | _ => none) hz (by
              cases z with
              | Name y p =>
                simp only [Bool.not_eq_true', decide_eq_false_iff_not] at h
                have q : (env.kindOf y == some NameKind.local) = false := by
                  cases q : env.kindOf y == some NameKind.local with
                  | false => rfl
                  | true => exact absurd (show env.scope.names.lookup y = some .local from eq_of_beq q) h
                simp [q]
              | _ => cases h)
          exact bne_iff_ne.mpr (Nat.ne_of_lt this)
  | _ => exact swapped_none rfl
theorem swapped_three {env : Env} {x y z : Str} {px py pz pt : Pos} {kt k2 : Nat} {pt2 : Pos} {a b c : Expr} (hk : env.scope.kind = .function) (hx : env.scope.names.lookup x = some .local) (hy : env.scope.names.lookup y = some .local) (hz : env.scope.names.lookup z = some .local) (ha : notStar a = true) (hb : notStar b = true) (hcc : notStar c = true) (hl : (px.line == py.line) = true) (hl3 : (px.line == pz.line) = true) (hne : x ≠ y) (hne2 : x ≠ z) (hne3 : y ≠ z)
    (hf : (foldedForSure 8 a && (foldedForSure 8 b && foldedForSure 8 c)) = false) (hc : (constantsAlone 8 a && (constantsAlone 8 b && constantsAlone 8 c)) = false) : swappedStores [.Tuple [.Name x px, .Name y py, .Name z pz] kt pt] (.Tuple [a, b, c] k2 pt2) env = pure (some [x, y, z]) := by
  have hb' : (env.blockKind != .function) = false := by unfold Env.blockKind; rw [hk]; rfl
  have kx : (env.kindOf x == some .local) = true := by rw [show env.kindOf x = some .local from hx]; rfl
  have ky : (env.kindOf y == some .local) = true := by rw [show env.kindOf y = some .local from hy]; rfl
  have kz : (env.kindOf z == some .local) = true := by rw [show env.kindOf z = some .local from hz]; rfl
  have hxy : (x == y) = false := by simpa using hne
  have hyx : (y == x) = false := by simpa using hne.symm
  have hxz : (x == z) = false := by simpa using hne2
  have hzx : (z == x) = false := by simpa using hne2.symm
  have hyz : (y == z) = false := by simpa using hne3
  have hzy : (z == y) = false := by simpa using hne3.symm
  have hl2 : (py.line == px.line) = true := by
    have := eq_of_beq hl
    rw [this]; simp
  have hl4 : (pz.line == px.line) = true := by
    have := eq_of_beq hl3
    rw [this]; simp
  have hdup : ([x, y, z].eraseDups).length = 3 := by
    simp [List.eraseDups, List.eraseDupsBy, List.eraseDupsBy.loop, hxy, hyx, hxz, hzx, hyz, hzy]
  unfold swappedStores
  simp only [hb', kx, ky, kz, hl2, hl4, List.length_cons, List.length_nil, List.all_cons, List.all_nil, Bool.and_true, hf, hc, List.head?_cons, Option.map_some, Option.getD_some, Expr.pos, List.filterMap_cons, List.filterMap_nil, beq_self_eq_true, Bool.true_and, if_true]
  simp only [hdup, bne_self_eq_false, Bool.false_eq_true, if_false, Bool.or_self, Bool.not_true, beq_self_eq_true]
  simp
  intro hh
  exfalso
  rcases hh with hh | hh | hh
  · cases a <;> first | (cases ha; done) | (cases hh; done)
  · cases b <;> first | (cases hb; done) | (cases hh; done)
  · cases c <;> first | (cases hcc; done) | (cases hh; done)
theorem cps_setT {X : Cx} {H0 : Hp} {C0 : CH} {i : Nat} {x : Str} {e : Expr} {ca : CTE} {pos pos' : Pos} (hN : X.N.Nodup) (hi : X.N[i]? = some x) (hx : L2.Loc X.env.scope x) (he : CPE X cl H0 C0 e ca) (hs : swapsWith e (some (.Name x pos')) pos.line X.env = pure false) (hf : X.fn x = true ∨ X.env.scope.names.lookup x = some .local) :
    CPS X cl H0 C0 (.Assign [.Name x pos'] e pos) (sAsg ca (hT (.nm i))) :=
  (ps_set hN hi hx he hs hf).imp fun D σ H ⟨σc, C, Dc, S, h, hq⟩ => ⟨σc, C, _, S, h, fun d C1 v H1 ⟨σ', e1, h1⟩ rv R1 k1 => by
    cases e1
    exact hq.nx _ _ _ _ h1 ((S.s.keep S.r k1).set rv i) R1 k1⟩
theorem swap_cell {x : Str} {p : Pos} {elt : Expr} {gs : List Comprehension} {scope : Scope} {pos : Pos} {l : Nat} {env : Env} (h : ¬ env.scope.names.lookup x = some .local) : swapsWith (.ListComp elt gs scope pos) (some (.Name x p)) l env = pure false := by
  have e : (env.kindOf x == some .local) = false := by
    cases q : env.kindOf x == some NameKind.local with
    | false => rfl
    | true => exact absurd (show env.scope.names.lookup x = some .local from eq_of_beq q) h
  unfold swapsWith
  simp only [e, Bool.and_false, Bool.false_and]
theorem swapped_two {env : Env} {x y : Str} {px py pt : Pos} {kt k2 : Nat} {pt2 : Pos} {a b : Expr} (hk : env.scope.kind = .function) (hx : env.scope.names.lookup x = some .local) (hy : env.scope.names.lookup y = some .local) (ha : notStar a = true) (hb : notStar b = true) (hl : (px.line == py.line) = true) (hne : x ≠ y)
    (hf : (foldedForSure 8 a && foldedForSure 8 b) = false) (hc : (constantsAlone 8 a && constantsAlone 8 b) = false) : swappedStores [.Tuple [.Name x px, .Name y py] kt pt] (.Tuple [a, b] k2 pt2) env = pure (some [x, y]) := by
  have hb' : (env.blockKind != .function) = false := by unfold Env.blockKind; rw [hk]; rfl
  have kx : (env.kindOf x == some .local) = true := by rw [show env.kindOf x = some .local from hx]; rfl
  have ky : (env.kindOf y == some .local) = true := by rw [show env.kindOf y = some .local from hy]; rfl
  have hst : ([a, b].any fun | .Starred .. => true | _ => false) = false := by
    cases a <;> first | (cases ha; done) | (cases b <;> first | (cases hb; done) | rfl)
  have hxy : (x == y) = false := by simpa using hne
  have hyx : (y == x) = false := by simpa using hne.symm
  have hl2 : (py.line == px.line) = true := by
    have := eq_of_beq hl
    rw [this]; simp
  have hdup : ([x, y].eraseDups).length = 2 := by
    simp [List.eraseDups, List.eraseDupsBy, List.eraseDupsBy.loop, hxy, hyx]
  unfold swappedStores
  simp only [hb', hst, kx, ky, hl2, List.length_cons, List.length_nil, List.all_cons, List.all_nil, Bool.and_true, hf, hc, List.head?_cons, Option.map_some, Option.getD_some, Expr.pos, List.filterMap_cons, List.filterMap_nil, beq_self_eq_true, Bool.true_and, if_true]
  simp only [hdup, bne_self_eq_false, Bool.false_eq_true, if_false, Bool.or_self, Bool.not_true, beq_self_eq_true]
  simp
  intro hh
  exfalso
  rcases hh with hh | hh
  · cases a <;> first | (cases ha; done) | (cases hh; done)
  · cases b <;> first | (cases hb; done) | (cases hh; done)
theorem swapped_none_s {o i e : Expr} {p : Pos} {env : Env} : swappedStores [.Subscript o i p] e env = pure none := by
  unfold swappedStores
  cases e <;> rfl
theorem PSet.or {X : Cx} {r r' : TSet} (h : PSet X r) (h' : PSet X r') : PSet X (fun o i v H Q => r o i v H Q ∨ r' o i v H Q) := fun pins s σ H o i v ov iv u Q I ro ri rv q =>
  q.elim (fun q => h pins s σ H o i v ov iv u Q I ro ri rv q) fun q => h' pins s σ H o i v ov iv u Q I ro ri rv q
theorem LkSet.or {r r' : TSet} {f f' : O3} (h : LkSet K cl r f) (h' : LkSet K cl r' f') : LkSet K cl (fun o i v H Q => r o i v H Q ∨ r' o i v H Q) (fun x y z C Q => f x y z C Q ∨ f' x y z C Q) := fun H C d e z v u w Q Qc rd re rz R q hq =>
  q.elim (fun q => .inl (h H C d e z v u w Q Qc rd re rz R q hq)) fun q => .inr (h' H C d e z v u w Q Qc rd re rz R q hq)
def LkIp (K : PySem.W.Frag) (cl : ClsT) (r : TIp) (o : O2) : Prop := Lk2 K cl r o
theorem cps_aug {X : Cx} {H0 : Hp} {C0 : CH} {i : Nat} {x : Str} {e : Expr} {op : Operator} {r : TIp} {o : O2} {ca : CTE} {pos pos' : Pos} (hN : X.N.Nodup) (hi : X.N[i]? = some x) (hx : L2.Loc X.env.scope x) (he : CPE X cl H0 C0 e ca) (ho : PIp X op r) (l : Lk2 X.K cl r o) (hf : X.fn x = true ∨ X.env.scope.names.lookup x = some .local) :
    CPS X cl H0 C0 (.AugAssign (.Name x pos') op e pos) (sAug i o ca) :=
  (ps_aug hN hi hx he ho hf).imp fun D σ H ⟨σc, C, Dc, S, ⟨d, e1, h⟩, hq⟩ => by
    obtain ⟨v, e2, rv⟩ := S.s.get e1
    exact ⟨v, e2, σc, C, _, S, h, fun z C1 u H1 h1 ru R1 k1 => l H1 C1 d z v u _ _ (rv.keep S.r k1) ru R1 h1 fun w' C2 wv H2 h2 rw' R2 k2 => hq.nx _ _ _ _ h2 ((((S.s.keep S.r k1)).keep R1 k2).set rw' i) R2 (k1.trans k2)⟩
theorem oAug_ok {X : Cx} (o : OpB) (h : o = .add ∨ o = .sub) : ∃ r, PIp X (opN o) r ∧ Lk2 X.K cl r (oAug o) := by
  rcases h with h | h
  · subst h
    refine ⟨fun x y H Q => ipI (fun i j => i + j) x y H Q ∨ (∃ i j, x = .str i ∧ y = .str j ∧ i.length + j.length ≤ sizeLine ∧ Q (.str (i ++ j)) H), fun pins s σ H x y v u Q I rx ry q => q.elim (fun q => ip_add pins s σ H x y v u Q I rx ry q) fun q => iop_add_str pins s σ H x y v u Q I rx ry q, fun H C d e v u Q Qc rd re R h hq => ?_⟩
    cases d with
    | int i =>
      cases e with
      | int j => cases rd; cases re; exact .inl ⟨i, j, rfl, rfl, hq.now h (.int _) R⟩
      | _ => exact h.elim
    | str i =>
      cases e with
      | str j => cases rd; cases re; exact .inr ⟨i, j, rfl, rfl, h.1, hq.now h.2 (.str _) R⟩
      | _ => exact h.elim
    | _ => exact h.elim
  · subst h
    refine ⟨_, ip_sub, fun H C d e v u Q Qc rd re R h hq => ?_⟩
    cases d with
    | int i =>
      cases e with
      | int j => cases rd; cases re; exact ⟨i, j, rfl, rfl, hq.now h.2 (.int _) R⟩
      | _ => exact h.elim
    | _ => exact h.elim
theorem suite_sound {X : Cx} {sc : Scope} {H0 : Hp} {C0 : CH} (nd : N.Nodup) (hN : X.N = N) (hsc : X.env.scope = sc) {s : Stmt} {c : CS} (h : chkSuite N sc s c = true) : CPS X cl H0 C0 s (rdS G (fun _ _ _ => False) c) := by
  unfold chkSuite at h
  split at h
  · simp only [Bool.and_eq_true, decide_eq_true_eq] at h
    obtain ⟨⟨h1, h2⟩, h3⟩ := h
    split at h1
    · obtain ⟨a1, a2, a3, a4⟩ := nmV_ok h1
      exact cps_setT (by rw [hN]; exact nd) (by rw [hN]; exact h2) (.inl (by rw [hsc]; exact h3)) (cpe_var (by rw [hN]; exact a1) (by rw [hsc]; exact a2) a3 a4) (swap_none rfl) (.inr (by rw [hsc]; exact h3))
    · cases h1
  · simp only [Bool.and_eq_true, decide_eq_true_eq] at h
    obtain ⟨⟨h1, h2⟩, h3⟩ := h
    split at h1
    · exact cps_setT (by rw [hN]; exact nd) (by rw [hN]; exact h2) (.inl (by rw [hsc]; exact h3)) cpe_non (swap_none rfl) (.inr (by rw [hsc]; exact h3))
    · rw [eq_of_beq h1]; exact cps_setT (by rw [hN]; exact nd) (by rw [hN]; exact h2) (.inl (by rw [hsc]; exact h3)) cpe_bl (swap_none rfl) (.inr (by rw [hsc]; exact h3))
    · rw [of_decide_eq_true h1]; exact cps_setT (by rw [hN]; exact nd) (by rw [hN]; exact h2) (.inl (by rw [hsc]; exact h3)) cpe_str (swap_none rfl) (.inr (by rw [hsc]; exact h3))
    · cases h1
  · split at h
    · exact cps_ret cpe_non
    · rw [eq_of_beq h]; exact cps_ret cpe_bl
    · rw [of_decide_eq_true h]; exact cps_ret cpe_str
    · cases h
  · exact cps_pass
  · exact cps_cont
  · cases h
theorem chkS_sound (F : Facts T P w K mg base cl G n) : ∀ fuel sc s c, chkS T N fuel sc s c = true → SndS P w K mg base cl G n N sc s c
  | 0, sc, s, c => fun h => by simp [chkS] at h
  | fuel + 1, sc, s, c => fun h X H0 C0 ex ok tk => by
    have go : ∀ {e c}, chkE T N fuel sc e c = true → CPE X cl H0 C0 e (rdE G ex c) := fun h => (chk_sound F fuel sc _ _).1 h true X H0 C0 ex ok tk
    have goT : ∀ {e c}, chkT T N fuel sc e c = true → CPT X cl H0 C0 e (rdT G ex c) := fun h => (chk_sound F fuel sc _ _).2 h true X H0 C0 ex ok tk
    have ih : ∀ s c, chkS T N fuel sc s c = true → CPS X cl H0 C0 s (rdS G ex c) := fun s c h => chkS_sound F fuel sc s c h X H0 C0 ex ok tk
    have nd : X.N.Nodup := by rw [ok.N_]; exact ok.nd
    cases c with
    | pass => simp only [chkS] at h; split at h <;> first | exact cps_pass | cases h
    | brk => simp only [chkS] at h; split at h <;> first | exact cps_break | cases h
    | cont => simp only [chkS] at h; split at h <;> first | exact cps_cont | cases h
    | retN => simp only [chkS] at h; split at h <;> first | exact cps_retN | cases h
    | expr c =>
      simp only [chkS] at h
      split at h
      · simp only [Bool.and_eq_true] at h
        exact cps_expr (go h.1) (swap_none h.2)
      · cases h
    | ret c =>
      simp only [chkS] at h
      split at h
      · exact cps_ret (go h)
      · cases h
    | ifS t a b =>
      simp only [chkS] at h
      split at h
      · simp only [Bool.and_eq_true] at h
        obtain ⟨⟨h1, h2⟩, h3⟩ := h
        exact cps_if (goT h1) (snd_ss (sc := sc) ih h2) (snd_ss (sc := sc) ih h3)
      · cases h
    | asg T' c =>
      cases T' with
      | nm i =>
        simp only [chkS] at h
        split at h
        · rename_i x xp e p
          simp only [Bool.and_eq_true, Bool.or_eq_true] at h
          obtain ⟨⟨h1, h2⟩, h3⟩ := h
          obtain ⟨g1, g2⟩ := nmL_ok h1
          have hx : L2.Loc X.env.scope x := by rw [ok.sc_]; exact g2
          have hf : X.fn x = true ∨ X.env.scope.names.lookup x = some .local := by rw [ok.sc_]; exact ok.loc rfl x g2
          have hi : X.N[i]? = some x := by rw [ok.N_]; exact g1
          rcases h3 with h3 | h3
          · exact cps_setT nd hi hx (go h2) (swap_none h3) hf
          · split at h3
            · rename_i elt g0 scope cp
              by_cases hloc : sc.names.lookup x = some .local
              · rw [hloc] at h3
                simp only [Bool.and_eq_true, Bool.not_eq_true'] at h3
                obtain ⟨l1, l2⟩ := h3
                obtain ⟨tg, iter, ifs', asy⟩ := g0
                cases fuel with
                | zero => simp [chkE] at h2
                | succ fuel =>
                  cases c with
                  | lc c T' vs k it ifs =>
                    simp only [chkE, Bool.and_eq_true, decide_eq_true_eq] at h2
                    obtain ⟨⟨⟨⟨⟨⟨⟨⟨h1, h2⟩, h3⟩, h4⟩, h5⟩, h6⟩, h7⟩, h8⟩, h9⟩ := h2
                    subst h1
                    obtain ⟨I1, I2⟩ := snd_it (tg := tg) F ok tk (fun e c => (chk_sound F fuel sc e c).1) h6
                    have hk : scope.kind = .function := by
                      unfold blkC at h2
                      simp only [Bool.and_eq_true] at h2
                      have := h2.1.1.1
                      split at this
                      · assumption
                      · cases this
                    have ev : ((tgNs tg).zip T'.slots).map (·.2) = T'.slots := by
                      rw [List.map_snd_zip]
                      omega
                    have q := cps_setLc (X := X) (cl := cl) (H0 := H0) (C0 := C0) (pos := cp) (spos := p) (own := (tgNs tg).zip T'.slots) (T := T') (scope := scope) ok.calm nd hi (by rw [ok.sc_]; exact hloc) (sw_true (by rw [ok.sc_]; exact ok.kind) (by rw [ok.sc_]; exact hloc) l1 l2) I1 (by rw [ok.N_, ok.sc_]; exact blkOk_by h2) (by rw [ev]; exact fun i hi => hi)
                      (fun s H C cs fp => by rw [ok.K_]; exact blk_tg ok h5) (fun s H C cs fp => snd_ifs (blk_ok ok hk) takes_bot (fun e c => (chk_sound F fuel (relS scope sc) e c).2) h7)
                      (fun s H C cs fp => (chk_sound F fuel (relS scope sc) _ _).1 h8 _ _ H0 C0 _ (blk_ok ok hk) takes_bot) (notSet_fold h9)
                    rw [ev] at q
                    rw [h3]
                    exact q
                  | _ => simp [chkE, notComp] at h2
              · exact cps_setT nd hi hx (go h2) (swap_cell (by rw [ok.sc_]; exact hloc)) hf
            · cases h3
        · cases h
      | tp is =>
        simp only [chkS] at h
        split at h
        · simp only [Bool.and_eq_true] at h
          obtain ⟨⟨⟨h1, h2⟩, h3⟩, h4⟩ := h
          obtain ⟨g1, g2⟩ := top_tg ok h1
          exact cps_asg (go h2) (cpg_T g1) (sole_none h3) (swapped_none2 (by rw [ok.sc_]; exact h4)) g2
        · cases h
    | par i j a b =>
      simp only [chkS] at h
      split at h
      · simp only [Bool.and_eq_true, decide_eq_true_eq, Bool.not_eq_true'] at h
        obtain ⟨⟨⟨⟨⟨⟨⟨⟨⟨⟨⟨⟨h1, h2⟩, h3⟩, h4⟩, h5⟩, h6⟩, h7⟩, h8⟩, h9⟩, h10⟩, h11⟩, h12⟩, h13⟩ := h
        rw [← ok.N_] at h1 h2
        rw [← ok.sc_] at h4 h5
        exact cps_par ok.calm nd h1 h2 h3 h4 h5 (cpa_cons (go h6) (cpa_cons (go h7) cpa_nil (star_of h9)) (star_of h8)) (swapped_two (by rw [ok.sc_]; exact ok.kind) h4 h5 h8 h9 h10 h13 h11 h12) rfl
      · cases h
    | par3 i j l a b c =>
      simp only [chkS] at h
      split at h
      · simp only [Bool.and_eq_true, decide_eq_true_eq, Bool.not_eq_true'] at h
        obtain ⟨⟨⟨⟨⟨⟨⟨⟨⟨⟨⟨⟨⟨⟨⟨⟨⟨⟨⟨⟨⟨h1, h2⟩, h3⟩, e1⟩, e2⟩, e3⟩, l1⟩, l2⟩, l3⟩, c1⟩, c2⟩, c3⟩, s1⟩, s2⟩, s3⟩, p1⟩, p2⟩, f1⟩, f2⟩, n1⟩, n2⟩, n3⟩ := h
        rw [← ok.N_] at h1 h2 h3
        rw [← ok.sc_] at l1 l2 l3
        exact cps_par3 ok.calm nd h1 h2 h3 e1 e2 e3 l1 l2 l3 (cpa_cons (go c1) (cpa_cons (go c2) (cpa_cons (go c3) cpa_nil (star_of s3)) (star_of s2)) (star_of s1)) (swapped_three (by rw [ok.sc_]; exact ok.kind) l1 l2 l3 s1 s2 s3 p1 p2 n1 n2 n3 f1 f2) rfl
      · cases h
    | setI o i c =>
      simp only [chkS] at h
      split at h
      · rename_i xo yi ps es pp
        simp only [Bool.and_eq_true] at h
        obtain ⟨⟨⟨⟨h1, h2⟩, h3⟩, h4⟩, h5⟩ := h
        exact cps_sub (go h1) (go h2) (go h3) (PSet.or set_list (set_dict (hu_of ok.room))) (LkSet.or lk_setL lk_setD) (fun v => by cases yi <;> first | rfl | (cases h5; done)) (sole_none h4) (swapped_none_s) rfl
      · cases h
    | setK o i c =>
      simp only [chkS] at h
      split at h
      · rename_i xo yi ps es pp
        simp only [Bool.and_eq_true] at h
        obtain ⟨⟨⟨⟨h1, h2⟩, h3⟩, h4⟩, h5⟩ := h
        exact cps_sub (go h1) (go h2) (go h3) (set_dtk (by rw [F.clP, ok.P_]) (by rw [F.clw, ok.w_]) (by have := ok.room.un; have := F.lv; omega)) lk_setK (fun v => by cases yi <;> first | rfl | (cases h5; done)) (sole_none h4) (swapped_none_s) rfl
      · cases h
    | never => exact cps_never
    | setF cs f o c =>
      simp only [chkS] at h
      split at h
      · simp only [Bool.and_eq_true, decide_eq_true_eq, List.all_eq_true] at h
        obtain ⟨⟨⟨⟨h1, h2⟩, h3⟩, h4⟩, h5⟩ := h
        subst h1
        exact cps_fld (fun c Ca hc hcl => by rw [ok.K_]; exact F.attr c _ Ca (h2 c hc) hcl) (go h3) (go h4) (swap_none h5)
      · cases h
    | augN i o c =>
      simp only [chkS] at h
      split at h
      · simp only [Bool.and_eq_true, decide_eq_true_eq, Bool.or_eq_true] at h
        obtain ⟨⟨⟨h1, h2⟩, h3⟩, h4⟩ := h
        subst h2
        obtain ⟨g1, g2⟩ := nmL_ok h1
        obtain ⟨r, r1, r2⟩ := oAug_ok (X := X) (cl := cl) o h3
        exact cps_aug nd (by rw [ok.N_]; exact g1) (by rw [ok.sc_]; exact g2) (go h4) r1 r2 (by rw [ok.sc_]; exact ok.loc rfl _ g2)
      · cases h
    | forS T' k it body =>
      simp only [chkS] at h
      split at h
      · simp only [Bool.and_eq_true] at h
        obtain ⟨⟨⟨h1, h2⟩, h3⟩, h4⟩ := h
        obtain ⟨g1, g2⟩ := top_tg ok h1
        exact cps_for ok.po ok.calm (snd_it F ok tk (fun e c => (chk_sound F fuel sc e c).1) h2).1 (cpg_T g1) (snd_ss (sc := sc) ih h4) (notSet_fold h3)
      · cases h
    | whileS t body =>
      simp only [chkS] at h
      split at h
      · simp only [Bool.and_eq_true] at h
        exact cps_while ok.po (goT h.1) (snd_ss (sc := sc) ih h.2)
      · cases h
    | raise c =>
      simp only [chkS] at h
      split at h
      · simp only [Bool.and_eq_true, decide_eq_true_eq] at h
        obtain ⟨⟨h1, h2⟩, h3⟩ := h
        obtain ⟨g1, g2⟩ := glN_ok ok.sc_ h1
        obtain ⟨Ca, c1, c2⟩ := F.cls _ _ h2
        obtain ⟨e1, e2, e3, e4⟩ := F.exc c Ca h3 c1
        rw [← ok.K_] at e1 e2 e3 e4
        rw [← ok.mg_] at c2
        exact cps_raise c1 PySem.F.excBase_ValueError e1 c2 e2 (raises_own e3 e4) g1 g2 ok.calm (by rw [ok.K_]; exact tk)
      · cases h
    | raiseE c e =>
      simp only [chkS] at h
      split at h
      · simp only [Bool.and_eq_true, decide_eq_true_eq] at h
        obtain ⟨⟨⟨⟨h1, h2⟩, h3⟩, h4⟩, h5⟩ := h
        obtain ⟨g1, g2⟩ := glN_ok ok.sc_ h1
        obtain ⟨Ca, c1, c2⟩ := F.cls _ _ h2
        obtain ⟨e1, e2, e3, e4⟩ := F.exc c Ca h3 c1
        rw [← ok.K_] at e1 e2 e3 e4
        rw [← ok.mg_] at c2
        exact cps_raiseE c1 PySem.F.excBase_ValueError e1 c2 e2 (raises_own e3 e4) g1 g2 ok.calm (by rw [ok.K_]; exact tk) (go h5) h4
      · cases h
    | tryS cs body suite =>
      simp only [chkS] at h
      split at h
      · simp only [Bool.and_eq_true] at h
        obtain ⟨⟨⟨h1, h2⟩, h3⟩, h4⟩ := h
        obtain ⟨g1, g2⟩ := glN_ok ok.sc_ h1
        obtain ⟨c, c1, c2⟩ := F.tch _ _ h2
        obtain ⟨f1, f2⟩ := ok.fr rfl
        rw [← ok.mg_] at c1
        refine cps_try (b := fun ex' => rdSs G ex' body) f1 f2 ⟨g1, g2, c1⟩ (by rw [ok.K_]; exact c2) (by rw [ok.K_]; exact tk) (fun pn xe ex' H1 C1 tk' po => ?_) fun a oe pn => ?_
        · have ok' : XOk P w K mg base n N sc true (X.tr pn xe) := ⟨ok.P_, ok.w_, ok.K_, ok.mg_, ok.base_, ok.N_, ok.nd, ok.sc_, ok.kind, ok.calm, ok.room, ok.loc, po, ok.gd, ok.fr⟩
          exact snd_ss (sc := sc) (fun s c h => chkS_sound F fuel sc s c h _ H1 C1 ex' ok' (by rw [← ok.K_]; exact tk')) h3
        · exact snd_ss (X := X.suite a ((a, oe) :: pn)) (sc := sc) (fun s c h => suite_sound (X := X.suite a ((a, oe) :: pn)) ok.nd ok.N_ ok.sc_ h) h4
      · cases h
    | tryA cs i body suite =>
      simp only [chkS] at h
      split at h
      · simp only [Bool.and_eq_true, decide_eq_true_eq] at h
        obtain ⟨⟨⟨⟨⟨h1, h2⟩, h3⟩, h4⟩, h5⟩, h6⟩ := h
        obtain ⟨g1, g2⟩ := glN_ok ok.sc_ h1
        obtain ⟨c, c1, c2⟩ := F.tch _ _ h2
        obtain ⟨f1, f2⟩ := ok.fr rfl
        rw [← ok.mg_] at c1
        refine cps_try_as (b := fun ex' => rdSs G ex' body) (s := fun _ => rdSs G (fun _ _ _ => False) suite) f1 f2 nd (by rw [ok.N_]; exact h3) (by show X.env.scope.names.lookup _ = _; rw [ok.sc_]; exact h4) ⟨g1, g2, c1⟩ (by rw [ok.K_]; exact c2) (by rw [ok.K_]; exact tk) (fun pn xe ex' H1 C1 tk' po => ?_) fun a oe pn _ => ?_
        · have ok' : XOk P w K mg base n N sc true (X.tr pn xe) := ⟨ok.P_, ok.w_, ok.K_, ok.mg_, ok.base_, ok.N_, ok.nd, ok.sc_, ok.kind, ok.calm, ok.room, ok.loc, po, ok.gd, ok.fr⟩
          exact snd_ss (sc := sc) (fun s c h => chkS_sound F fuel sc s c h _ H1 C1 ex' ok' (by rw [← ok.K_]; exact tk')) h5
        · exact snd_ss (X := X.suite a ((a, oe) :: pn)) (sc := sc) (fun s c h => suite_sound (X := X.suite a ((a, oe) :: pn)) ok.nd ok.N_ ok.sc_ h) h6
      · cases h
end
end L3

namespace L3
open PySem L2
/-! ### a whole program -/
structure FDef where
  np : Nat
  ns : Nat
  body : List CS
abbrev Prog3 := List (Nat × FDef)
def Prog3.get (p : Prog3) (f : Nat) : Option FDef := (p.find? fun q => q.1 == f).map (·.2)
def startN (n : Nat) (ds : List D) : Env3 := ds.map some ++ List.replicate (n - ds.length) none
/-- what is behind a body: what is made meanwhile may be forgotten -/
def endN (Q : Kv) : EndsC := { nx := fun _ C' => ∃ C1, Sub C1 C' ∧ Q .non C1, rt := fun d C' => ∃ C1, Sub C1 C' ∧ Q d C1 }
def exN (E : Kx) : Kxs := fun y _ C' => ∃ C1, Sub C1 C' ∧ E y C1
/-- the meaning of the defs, with n calls one within another -/
def wpN (p : Prog3) (kit : String ⊕ Nat → String ⊕ Nat → Option Bool) : Nat → Nat → SemF
  | 0, _ => fun _ _ _ _ => False
  | n + 1, f => fun ds C Q E => match p.get f with
    | none => False
    | some d => ds.length = d.np ∧ rdSs ⟨wpN p kit n, match n with | 0 => fun _ _ _ _ _ => False | m + 1 => wpN p kit m, kit⟩ (exN E) d.body (endN Q) (startN d.ns ds) C
def gN (p : Prog3) (kit : String ⊕ Nat → String ⊕ Nat → Option Bool) (n : Nat) : G3 := ⟨wpN p kit n, match n with | 0 => fun _ _ _ _ _ => False | m + 1 => wpN p kit m, kit⟩
/-- a def of the law as it stands in the text, and its clean form -/
structure DefT where
  f : Nat
  name : Str
  qual : Str
  stmt : Stmt
  N : List Str
  ps : List Str
  fuel : Nat
def DefT.ok (T : Tab) (p : Prog3) (d : DefT) : Bool := match p.get d.f with
  | none => false
  | some c => chkSs (chkS T d.N d.fuel (defScope d.stmt)) (defBody d.stmt) c.body && decide (c.np = d.ps.length) && decide (c.ns = d.N.length) &&
    (match (defScope d.stmt).kind with | .function => true | _ => false) && !(defScope d.stmt).isCoroutine && !(defScope d.stmt).isGenerator && decide d.N.Nodup && decide (d.N.take d.ps.length = d.ps) && (d.ps.all fun x => match (defScope d.stmt).names.lookup x with | some .local => true | some .cell => true | _ => false) && ((defScope d.stmt).names.all fun y => match y.2 with | .free => false | _ => true)
theorem DefT.scope {T : Tab} {p : Prog3} {d : DefT} (h : d.ok T p = true) : FnScope d.N d.ps (defScope d.stmt) := by
  unfold DefT.ok at h
  split at h
  · cases h
  · simp only [Bool.and_eq_true, decide_eq_true_eq, Bool.not_eq_true', List.all_eq_true] at h
    obtain ⟨⟨⟨⟨⟨⟨⟨⟨⟨h1, h2⟩, h3⟩, h4⟩, h5⟩, h6⟩, h7⟩, h8⟩, h9⟩, h10⟩ := h
    refine ⟨?_, h5, h6, h7, h8, fun x hx => ?_, fun y hy z => ?_⟩
    · split at h4 <;> first | assumption | cases h4
    · have := h9 x hx
      split at this <;> first | (left; assumption) | (right; assumption) | cases this
    · have := h10 y hy
      rw [z] at this
      cases this
/-- a def as it stands behind the top -/
structure DefAt (K : PySem.W.Frag) (d : DefT) (a : Addr) (fd : FuncData) : Prop where
  ex : ∃ (oc : Value) (od : Option Addr) (dV kV doc pm : Value) (an : Option Addr) (cdv ct : Value) (osl : Array (Option Value)),
    fd = PySem.W.fnOf d.name d.qual (defArgs d.stmt) (defBody d.stmt) (defScope d.stmt) dV kV doc pm an cdv ct ∧ K.lookup a = some ⟨oc, od, .func fd, osl⟩ ∧ PySem.W.codeIn K cdv d.qual = true
  kp : PySem.W.keepIn K (.ref a) = true
section
variable {T : Tab} {P : Program} {w : World} {K : PySem.W.Frag} {mg : Str → Option Value} {base : Heap} {cl : ClsT} {p : Prog3} {kit : String ⊕ Nat → String ⊕ Nat → Option Bool}
/-- one def: from the facts about what it calls (n calls) to its own promise (n + 1 calls) -/
theorem def_step {n : Nat} {d : DefT} {a : Addr} {fd : FuncData} {c : FDef} (F : Facts T P w K mg base cl (gN p kit n) (n + 10)) (A : DefAt K d a fd) (hc : p.get d.f = some c) (h : d.ok T p = true) : FnOkG P w K mg base (L2.CX P w) (n + 10 + 1) a fd d.ps (spC K cl c.np (wpN p kit (n + 1) d.f)) := by
  have S := DefT.scope h
  obtain ⟨oc, od, dV, kV, doc, pm, an, cdv, ct, osl, rfl, lk, hcd⟩ := A.ex
  have h' := h
  unfold DefT.ok at h'
  rw [hc] at h'
  simp only [Bool.and_eq_true, decide_eq_true_eq] at h'
  obtain ⟨⟨⟨⟨⟨⟨⟨⟨⟨h1, h2⟩, h3⟩, _⟩, _⟩, _⟩, _⟩, _⟩, _⟩, _⟩ := h'
  rw [h2]
  refine fn_ofG lk hcd S (fun vs H Q E ⟨ds, C, Qc, Ec, r, hl, _⟩ => by rw [← r.length, hl]) fun A' outer s H vs Q E hr hgd ⟨ds, C, Qc, Ec, r, hl, R, hs, hq, hx⟩ => ?_
  have ok : XOk P w K mg base (n + 10) d.N (defScope d.stmt) true (cxOf (L2.CX P w) P w K mg base d.N d.qual (defScope d.stmt) a cdv A' outer s H E) := ⟨rfl, rfl, rfl, rfl, rfl, rfl, S.nd, rfl, S.kind, rfl, hr, fun _ _ _ => .inl rfl, passes_of rfl, hgd, fun _ => ⟨rfl, rfl⟩⟩
  have tk : Takes (cxOf (L2.CX P w) P w K mg base d.N d.qual (defScope d.stmt) a cdv A' outer s H E) (WC K cl H C (exN Ec)) :=
    (takes_of (E := E) rfl rfl rfl rfl).imp fun cls d' σ H' ⟨y, σc, C', ⟨C1, s1, q⟩, xr, S'⟩ => hx y C1 cls d' H' q xr (S'.r.sub s1) (S'.f.sub s1)
  have body := snd_ss (sc := defScope d.stmt) (fun s c h => chkS_sound F d.fuel (defScope d.stmt) s c h _ H C (exN Ec) ok tk) h1
  refine ⟨_, body, startN c.ns ds, C, endN Qc, ⟨?_, R, Keep.refl⟩, ?_, ?_⟩
  · have q := start_rep (N := d.N) r
    unfold start3 at q
    rw [h3]
    exact q
  · have hs' : ds.length = c.np ∧ rdSs (gN p kit n) (exN Ec) c.body (endN Qc) (startN c.ns ds) C := by
      unfold wpN at hs
      simp only [hc] at hs
      exact hs
    exact hs'.2
  · exact ⟨fun σc' C' σ' H' ⟨C1, s1, q⟩ _ R' k => hq _ _ _ _ q .non (R'.sub s1) (k.sub s1), fun d' C' v H' ⟨C1, s1, q⟩ rv R' k => hq _ _ _ _ q rv (R'.sub s1) (k.sub s1), fun _ _ _ _ z => z.elim, fun _ _ _ _ z => z.elim⟩
/-- what is known of the law's names, whatever the defs do -/
structure Names3 (T : Tab) (K : PySem.W.Frag) (mg : Str → Option Value) (cl : ClsT) (p : Prog3) (kit : String ⊕ Nat → String ⊕ Nat → Option Bool) (at_ : Nat → Option (DefT × Addr × FuncData)) : Prop where
  defs : ∀ f d a fd, at_ f = some (d, a, fd) → d.f = f ∧ DefAt K d a fd ∧ d.ok T p = true ∧ ∀ m ks np g, T.shape f m ks = some (np, g) → np = d.ps.length ∧ BindsC K fd d.ps m ks g
  fn : ∀ x f, T.fn x = some f → ∃ d a fd, at_ f = some (d, a, fd) ∧ mg x = some (.ref a)
  cls : ∀ x c, T.cls x = some c → ∃ Ca, cl c = some Ca ∧ mg x = some (.ref Ca)
  init : ∀ c f, T.init c = some f → ∃ Ca d a fd, cl c = some Ca ∧ at_ f = some (d, a, fd) ∧ Mk K Ca a
  own : ∀ c f, T.own c = some f → ∃ Ca d a fd, cl c = some Ca ∧ at_ f = some (d, a, fd) ∧ OwnE K Ca a
  ownL : ∀ c f, T.ownL c = some f → ∃ Ca d a fd, cl c = some Ca ∧ at_ f = some (d, a, fd) ∧ OwnL K Ca a
  ownB : ∀ c f, T.ownB c = some f → ∃ Ca d a fd, cl c = some Ca ∧ at_ f = some (d, a, fd) ∧ OwnB K Ca a
  mth : ∀ c m f, T.mth c m = some f → ∃ Ca d a fd, cl c = some Ca ∧ at_ f = some (d, a, fd) ∧ Cls K Ca ∧ Meth K Ca m a
  glb : ∀ x d, T.glb x = some d → ∃ u v, mg x = some u ∧ RelV v u ∧ ∀ H, Rep K H d v
  blt : ∀ x, T.blt x = true → mg x = none
  attr : ∀ c f Ca, T.attr c f = true → cl c = some Ca → Cls K Ca ∧ NoAttr K Ca f
  kit_ : KitOk K cl kit
  kitc : ∀ c u b Ca, kit (.inr c) u = some b → cl c = some Ca → ClsOk K Ca
  exc : ∀ c Ca, T.exc c = true → cl c = some Ca → PySem.W.excIn K Ca [.type "ValueError", .type "Exception", .type "BaseException", .type "object"] "ValueError.__new__" = true ∧ PySem.W.keepIn K (.ref Ca) = true ∧ PySem.W.subIn K (.ref Ca) (.type "BaseException") = some true ∧ PySem.W.typeIn K (.ref Ca) = some (.type "type")
  tch : ∀ x cs, T.tch x cs = true → ∃ c, (mg x = some c ∨ (mg x = none ∧ bootBuiltins x = some c ∧ x ≠ "__name__")) ∧ SubOk K cl c fun i => decide (i ∈ cs)
theorem none_at {f : Addr} {fd : FuncData} {ps : List Str} {np : Nat} {g k : Nat} (hl : np = ps.length) : FnOkG P w K mg base (L2.CX P w) k f fd ps (spC K cl np (wpN p kit 0 g)) :=
  ⟨fun vs H Q E ⟨ds, C, Qc, Ec, r, h, _⟩ => by rw [← r.length, h, hl], fun A outer s H args us vs Q E _ _ _ _ _ ⟨_, _, _, _, _, _, _, z, _⟩ => z.elim⟩
theorem np_of {d : DefT} {c : FDef} (hc : p.get d.f = some c) (h : d.ok T p = true) : c.np = d.ps.length := by
  unfold DefT.ok at h
  rw [hc] at h
  simp only [Bool.and_eq_true, decide_eq_true_eq] at h
  exact h.1.1.1.1.1.1.1.1.2
theorem get_of {d : DefT} (h : d.ok T p = true) : ∃ c, p.get d.f = some c := by
  unfold DefT.ok at h
  cases e : p.get d.f with
  | none => rw [e] at h; cases h
  | some c => exact ⟨c, rfl⟩
/-- ALL DEFS keep the promise that their clean form says -/
theorem all_defs (hcP : cl.P = P) (hcw : cl.w = w) {at_ : Nat → Option (DefT × Addr × FuncData)} (M : Names3 T K mg cl p kit at_) : ∀ n f d a fd, at_ f = some (d, a, fd) → FnOkG P w K mg base (L2.CX P w) (n + 10) a fd d.ps (spC K cl d.ps.length (wpN p kit n f))
  | 0, f, d, a, fd, _ => none_at rfl
  | n + 1, f, d, a, fd, h => by
    obtain ⟨e, A, ok, _⟩ := M.defs f d a fd h
    obtain ⟨c, hc⟩ := get_of ok
    have np := np_of hc ok
    have ih := all_defs hcP hcw M n
    have atF : ∀ g d a fd, at_ g = some (d, a, fd) → FnAt P w K mg base cl T (wpN p kit n g) (n + 10) g a := fun g d a fd hg =>
      ⟨fd, d.ps, d.ps.length, ih g d a fd hg, fun m ks np' gg hs => (M.defs g d a fd hg).2.2.2 m ks np' gg hs⟩
    have F : Facts T P w K mg base cl (gN p kit n) (n + 10) := by
      refine ⟨by omega, hcP, hcw, fun x f hx => ?_, M.cls, fun c f hf => ?_, fun c f hf => ?_, fun c f hf => ?_, fun c f hf => ?_, fun c m f hf => ?_, M.glb, M.blt, M.attr, M.kit_, M.kitc, M.exc, M.tch⟩
      · obtain ⟨d, a, fd, h1, h2⟩ := M.fn x f hx
        exact ⟨a, h2, (M.defs f d a fd h1).2.1.kp, atF f d a fd h1⟩
      · obtain ⟨Ca, d, a, fd, h1, h2, h3⟩ := M.init c f hf
        refine ⟨Ca, a, h1, h3, fd, d.ps, d.ps.length, ?_, fun m ks np' gg hs => (M.defs f d a fd h2).2.2.2 m ks np' gg hs⟩
        cases n with
        | zero => exact .inl fun _ _ _ _ z => z
        | succ m => exact .inr ⟨m + 10, all_defs hcP hcw M m f d a fd h2, by omega⟩
      · obtain ⟨Ca, d, a, fd, h1, h2, h3⟩ := M.own c f hf
        refine ⟨Ca, a, h1, h3, fd, d.ps, d.ps.length, ?_⟩
        cases n with
        | zero => exact ⟨0, ⟨fun vs H Q E ⟨_, _, _, _, _, _, _, z, _⟩ => z.elim, fun A outer s H args us vs Q E _ _ _ _ _ ⟨_, _, _, _, _, _, _, z, _⟩ => z.elim⟩, by omega, fun m ks np' gg hs => (M.defs f d a fd h2).2.2.2 m ks np' gg hs⟩
        | succ m => exact ⟨m + 10, all_defs hcP hcw M m f d a fd h2, by omega, fun m ks np' gg hs => (M.defs f d a fd h2).2.2.2 m ks np' gg hs⟩
      · obtain ⟨Ca, d, a, fd, h1, h2, h3⟩ := M.ownL c f hf
        refine ⟨Ca, a, h1, h3, fd, d.ps, d.ps.length, ?_⟩
        cases n with
        | zero => exact ⟨0, ⟨fun vs H Q E ⟨_, _, _, _, _, _, _, z, _⟩ => z.elim, fun A outer s H args us vs Q E _ _ _ _ _ ⟨_, _, _, _, _, _, _, z, _⟩ => z.elim⟩, by omega, fun m ks np' gg hs => (M.defs f d a fd h2).2.2.2 m ks np' gg hs⟩
        | succ m => exact ⟨m + 10, all_defs hcP hcw M m f d a fd h2, by omega, fun m ks np' gg hs => (M.defs f d a fd h2).2.2.2 m ks np' gg hs⟩
      · obtain ⟨Ca, d, a, fd, h1, h2, h3⟩ := M.ownB c f hf
        exact ⟨Ca, a, h1, h3, atF f d a fd h2⟩
      · obtain ⟨Ca, d, a, fd, h1, h2, h3, h4⟩ := M.mth c m f hf
        exact ⟨Ca, a, h1, h3, h4, atF f d a fd h2⟩
    have q := def_step F A hc ok
    rw [np, e] at q
    have e2 : n + 1 + 10 = n + 10 + 1 := by omega
    rw [e2]
    exact q
end
end L3

namespace L3
open PySem L2
/-! ### the tables of a law, as lists -/
def AllP {α : Type} (P : α → Prop) : List α → Prop
  | [] => True
  | x :: xs => P x ∧ AllP P xs
theorem AllP.mem {α : Type} {P : α → Prop} {x : α} : ∀ {xs : List α}, AllP P xs → x ∈ xs → P x
  | y :: ys, ⟨h, t⟩, m => by
    rcases List.mem_cons.mp m with e | m
    · subst e; exact h
    · exact AllP.mem t m
def look {α β : Type} [DecidableEq α] (xs : List (α × β)) (x : α) : Option β := (xs.find? fun q => decide (q.1 = x)).map (·.2)
theorem look_mem {α β : Type} [DecidableEq α] {xs : List (α × β)} {x : α} {y : β} (h : look xs x = some y) : (x, y) ∈ xs := by
  unfold look at h
  obtain ⟨q, h1, h2⟩ := Option.map_eq_some_iff.mp h
  have h3 := List.find?_some h1
  have h4 := List.mem_of_find?_eq_some h1
  simp only [decide_eq_true_eq] at h3
  obtain ⟨a, b⟩ := q
  simp only at h2 h3
  subst h2 h3
  exact h4
structure TabL where
  fn : List (Str × Nat) := []
  cls : List (Str × Nat) := []
  glb : List (Str × D) := []
  blt : List Str := []
  shape : List ((Nat × Nat × List Str) × (Nat × List Src)) := []
  init : List (Nat × Nat) := []
  own : List (Nat × Nat) := []
  ownL : List (Nat × Nat) := []
  ownB : List (Nat × Nat) := []
  mth : List ((Nat × Str) × Nat) := []
  attr : List (Nat × Str) := []
  exc : List Nat := []
  tch : List (Str × List Nat) := []
def TabL.tab (L : TabL) : Tab where
  fn := look L.fn
  cls := look L.cls
  glb := look L.glb
  blt := fun x => decide (x ∈ L.blt)
  shape := fun f m ks => look L.shape (f, m, ks)
  init := look L.init
  own := look L.own
  ownL := look L.ownL
  ownB := look L.ownB
  mth := fun c m => look L.mth (c, m)
  attr := fun c f => decide ((c, f) ∈ L.attr)
  exc := fun c => decide (c ∈ L.exc)
  tch := fun x cs => decide ((x, cs) ∈ L.tch)
abbrev Kit := List ((String ⊕ Nat) × (String ⊕ Nat) × Bool)
def Kit.get (k : Kit) (t u : String ⊕ Nat) : Option Bool := (k.find? fun q => decide (q.1 = t) && decide (q.2.1 = u)).map (·.2.2)
theorem Kit.get_mem {k : Kit} {t u : String ⊕ Nat} {b : Bool} (h : k.get t u = some b) : (t, u, b) ∈ k := by
  unfold Kit.get at h
  obtain ⟨q, h1, h2⟩ := Option.map_eq_some_iff.mp h
  have h3 := List.find?_some h1
  have h4 := List.mem_of_find?_eq_some h1
  simp only [Bool.and_eq_true, decide_eq_true_eq] at h3
  obtain ⟨a, c, d⟩ := q
  obtain ⟨h5, h6⟩ := h3
  simp only at h2 h5 h6
  subst h2 h5 h6
  exact h4
/-- the kinds of data, one of another -/
def kitPlain : Kit := [(.inl "NoneType", .inl "int", false), (.inl "bool", .inl "int", true), (.inl "int", .inl "int", true), (.inl "str", .inl "int", false), (.inl "tuple", .inl "int", false), (.inl "list", .inl "int", false), (.inl "dict", .inl "int", false),
  (.inl "NoneType", .inl "bool", false), (.inl "bool", .inl "bool", true), (.inl "int", .inl "bool", false), (.inl "str", .inl "bool", false), (.inl "tuple", .inl "bool", false), (.inl "list", .inl "bool", false), (.inl "dict", .inl "bool", false),
  (.inl "NoneType", .inl "str", false), (.inl "bool", .inl "str", false), (.inl "int", .inl "str", false), (.inl "str", .inl "str", true), (.inl "tuple", .inl "str", false), (.inl "list", .inl "str", false), (.inl "dict", .inl "str", false),
  (.inl "NoneType", .inl "tuple", false), (.inl "bool", .inl "tuple", false), (.inl "int", .inl "tuple", false), (.inl "str", .inl "tuple", false), (.inl "tuple", .inl "tuple", true), (.inl "list", .inl "tuple", false), (.inl "dict", .inl "tuple", false),
  (.inl "NoneType", .inl "list", false), (.inl "bool", .inl "list", false), (.inl "int", .inl "list", false), (.inl "str", .inl "list", false), (.inl "tuple", .inl "list", false), (.inl "list", .inl "list", true), (.inl "dict", .inl "list", false)]
def KitP (K : PySem.W.Frag) (cl : ClsT) (q : (String ⊕ Nat) × (String ⊕ Nat) × Bool) : Prop := ∀ vt, tyVal cl q.1 = some vt → ∃ vu, tyVal cl q.2.1 = some vu ∧ PySem.W.kitOne K vt vu = some q.2.2
theorem kitP_ty {K : PySem.W.Frag} {cl : ClsT} {t u : String} {b : Bool} (h : PySem.W.kitOne K (.type t) (.type u) = some b) : KitP K cl (.inl t, .inl u, b) := fun vt e => by
  have e' : vt = .type t := (Option.some.inj e).symm
  rw [e']
  exact ⟨_, rfl, h⟩
section
variable {K : PySem.W.Frag} {mg : Str → Option Value} {cl : ClsT}
/-- the defs, numbered from i -/
def Ents (K : PySem.W.Frag) (T : Tab) (p : Prog3) : Nat → List (DefT × Addr × FuncData) → Prop
  | _, [] => True
  | i, e :: r => (e.1.f = i ∧ DefAt K e.1 e.2.1 e.2.2 ∧ e.1.ok T p = true) ∧ Ents K T p (i + 1) r
theorem Ents.get {T : Tab} {p : Prog3} {e : DefT × Addr × FuncData} : ∀ (E : List (DefT × Addr × FuncData)) (i j : Nat), Ents K T p i E → E[j]? = some e → e.1.f = i + j ∧ DefAt K e.1 e.2.1 e.2.2 ∧ e.1.ok T p = true := by
  intro E
  induction E with
  | nil => intro i j _ q; simp at q
  | cons a r ih =>
    intro i j h q
    cases j with
    | zero =>
      simp only [List.getElem?_cons_zero, Option.some.injEq] at q
      rw [← q]
      exact h.1
    | succ j =>
      have := ih (i + 1) j h.2 (by simpa using q)
      rw [show i + 1 + j = i + (j + 1) by omega] at this
      exact this
/-- what a class is good for that is raised -/
structure ExcK (K : PySem.W.Frag) (Ca : Addr) : Prop where
  x1 : PySem.W.excIn K Ca [.type "ValueError", .type "Exception", .type "BaseException", .type "object"] "ValueError.__new__" = true
  x2 : PySem.W.keepIn K (.ref Ca) = true
  x3 : PySem.W.subIn K (.ref Ca) (.type "BaseException") = some true
  x4 : PySem.W.typeIn K (.ref Ca) = some (.type "type")
abbrev clL (P : Program) (w : World) (CL : List Addr) : ClsT := ⟨fun c => CL[c]?, P, w⟩
structure LawN (P : Program) (w : World) (L : TabL) (K : PySem.W.Frag) (mg : Str → Option Value) (CL : List Addr) (p : Prog3) (kit : Kit) (E : List (DefT × Addr × FuncData)) : Prop where
  ents : Ents K L.tab p 0 E
  shape : AllP (fun q => ∃ e, E[q.1.1]? = some e ∧ q.2.1 = e.1.ps.length ∧ BindsC K e.2.2 e.1.ps q.1.2.1 q.1.2.2 q.2.2) L.shape
  fn : AllP (fun q => ∃ e, E[q.2]? = some e ∧ mg q.1 = some (.ref e.2.1)) L.fn
  cls : AllP (fun q => ∃ Ca, CL[q.2]? = some Ca ∧ mg q.1 = some (.ref Ca)) L.cls
  init : AllP (fun q => ∃ Ca e, CL[q.1]? = some Ca ∧ E[q.2]? = some e ∧ Mk K Ca e.2.1) L.init
  own : AllP (fun q => ∃ Ca e, CL[q.1]? = some Ca ∧ E[q.2]? = some e ∧ OwnE K Ca e.2.1) L.own
  ownL : AllP (fun q => ∃ Ca e, CL[q.1]? = some Ca ∧ E[q.2]? = some e ∧ OwnL K Ca e.2.1) L.ownL
  ownB : AllP (fun q => ∃ Ca e, CL[q.1]? = some Ca ∧ E[q.2]? = some e ∧ OwnB K Ca e.2.1) L.ownB
  mth : AllP (fun q => ∃ Ca e, CL[q.1.1]? = some Ca ∧ E[q.2]? = some e ∧ Cls K Ca ∧ Meth K Ca q.1.2 e.2.1) L.mth
  glb : AllP (fun q => ∃ u v, mg q.1 = some u ∧ RelV v u ∧ ∀ H, Rep K H q.2 v) L.glb
  blt : AllP (fun x => mg x = none) L.blt
  attr : AllP (fun q => ∀ Ca, CL[q.1]? = some Ca → Cls K Ca ∧ NoAttr K Ca q.2) L.attr
  kit_ : AllP (KitP K (clL P w CL)) kit
  kitc : AllP (fun q => ∀ c Ca, q.1 = .inr c → CL[c]? = some Ca → ClsOk K Ca) kit
  exc : AllP (fun c => ∀ Ca, CL[c]? = some Ca → ExcK K Ca) L.exc
  tch : AllP (fun q : Str × List Nat => ∃ c, (mg q.1 = some c ∨ (mg q.1 = none ∧ bootBuiltins q.1 = some c ∧ q.1 ≠ ("__name__" : Str))) ∧ SubOk K (clL P w CL) c fun i => decide (i ∈ q.2)) L.tch
theorem LawN.names {P : Program} {w : World} {L : TabL} {CL : List Addr} {p : Prog3} {kit : Kit} {E : List (DefT × Addr × FuncData)} (W : LawN P w L K mg CL p kit E) : Names3 L.tab K mg (clL P w CL) p kit.get (fun f => E[f]?) := by
  refine ⟨fun f d a fd h => ?_, fun x f h => ?_, fun x c h => ?_, fun c f h => ?_, fun c f h => ?_, fun c f h => ?_, fun c f h => ?_, fun c m f h => ?_, fun x d h => ?_, fun x h => ?_, fun c f Ca h hc => ?_, fun t u b vt h1 h2 => ?_, fun c u b Ca h hc => ?_, fun c Ca h hc => ?_, fun x cs h => ?_⟩
  · obtain ⟨h1, h2, h3⟩ := Ents.get _ _ _ W.ents h
    refine ⟨by simpa using h1, h2, h3, fun m ks np g hs => ?_⟩
    obtain ⟨e, e1, e2, e3⟩ := W.shape.mem (look_mem hs)
    simp only at e1 e2 e3
    rw [h] at e1
    cases e1
    exact ⟨e2, e3⟩
  · obtain ⟨⟨d, a, fd⟩, e1, e2⟩ := W.fn.mem (look_mem h)
    exact ⟨d, a, fd, e1, e2⟩
  · exact W.cls.mem (look_mem h)
  · obtain ⟨Ca, ⟨d, a, fd⟩, e1, e2, e3⟩ := W.init.mem (look_mem h)
    exact ⟨Ca, d, a, fd, e1, e2, e3⟩
  · obtain ⟨Ca, ⟨d, a, fd⟩, e1, e2, e3⟩ := W.own.mem (look_mem h)
    exact ⟨Ca, d, a, fd, e1, e2, e3⟩
  · obtain ⟨Ca, ⟨d, a, fd⟩, e1, e2, e3⟩ := W.ownL.mem (look_mem h)
    exact ⟨Ca, d, a, fd, e1, e2, e3⟩
  · obtain ⟨Ca, ⟨d, a, fd⟩, e1, e2, e3⟩ := W.ownB.mem (look_mem h)
    exact ⟨Ca, d, a, fd, e1, e2, e3⟩
  · obtain ⟨Ca, ⟨d, a, fd⟩, e1, e2, e3, e4⟩ := W.mth.mem (look_mem h)
    exact ⟨Ca, d, a, fd, e1, e2, e3, e4⟩
  · exact W.glb.mem (look_mem h)
  · exact W.blt.mem (of_decide_eq_true h)
  · exact W.attr.mem (of_decide_eq_true h) Ca hc
  · exact W.kit_.mem (Kit.get_mem h1) vt h2
  · exact W.kitc.mem (Kit.get_mem h) c Ca rfl hc
  · have q := W.exc.mem (of_decide_eq_true h) Ca hc
    exact ⟨q.x1, q.x2, q.x3, q.x4⟩
  · exact W.tch.mem (of_decide_eq_true h)
/-! ### how calls are bound -/
def posn (n : Nat) : List Src := (List.range n).map Src.pos
theorem gath_posn : ∀ (ds es : List D), gath (posn ds.length) ds es = ds := fun ds es => by
  unfold gath posn
  rw [List.map_map]
  apply List.ext_getElem
  · simp
  · intro i h1 h2
    simp [Src.get, h2]
/-- all arguments by place -/
theorem bindsC_pos {fd : FuncData} {ps : List Str} (h : ∀ us : List Value, us.length = ps.length → bindArgs fd ⟨us, []⟩ = pure (ps.zip us)) : BindsC K fd ps ps.length [] (posn ps.length) :=
  ⟨fun us _ => us, fun vs _ => vs, fun s us ws _ hl hw => by
    have e : ws = [] := List.eq_nil_of_length_eq_zero hw
    subst e
    exact .of_eq (h us hl), fun r _ => r, fun H ds vs es zs hl _ r _ => by
    rw [← hl, gath_posn]
    exact r⟩
end
/-! ### the law -/
/-- what the law's text answers, over data -/
def LawTrue (p : Prog3) (kit : Kit) (n f : Nat) : Prop := ∀ ns : List Int, ns.length ≤ 63 → (∀ z ∈ ns, Builtin.Int.intBits z ≤ 1048576) → wpN p kit.get n f [.rls (ns.map D.int)] (fun _ => none) (fun d _ => d = .bl true) fun _ _ => False
def spL (K : PySem.W.Frag) : Sp := fun vs H Q _ => ∃ (a : Addr) (ns : List Int), vs = [.ref a] ∧ RlS K H a (ns.map V.int) ∧ ns.length ≤ 63 ∧ (∀ z ∈ ns, Builtin.Int.intBits z ≤ 1048576) ∧ ∀ H', Q (.bl true) H'
theorem repL_ints {K : PySem.W.Frag} {H : Hp} : ∀ ns : List Int, RepL K H (ns.map D.int) (ns.map V.int)
  | [] => .nil
  | n :: ns => .cons (.int n) (repL_ints ns)
theorem law_ok {L : TabL} {P : Program} {w : World} {K : PySem.W.Frag} {mg : Str → Option Value} {base : Heap} {CL : List Addr} {p : Prog3} {kit : Kit} {E : List (DefT × Addr × FuncData)} (W : LawN P w L K mg CL p kit E) {n f : Nat} {d : DefT} {a : Addr} {fd : FuncData}
    (h : E[f]? = some (d, a, fd)) {x : Str} (hx : d.ps = [x]) (S : LawTrue p kit n f) : FnOkG P w K mg base (L2.CX P w) (n + 10) a fd [x] (spL K) := by
  have q := all_defs (P := P) (w := w) (base := base) rfl rfl W.names n f d a fd h
  rw [hx] at q
  refine q.imp fun vs H Q E ⟨b, ns, e, hS, hl, hb, hq⟩ => ?_
  subst e
  refine ⟨[.rls (ns.map D.int)], fun _ => none, _, _, .cons (.rls hS (repL_ints ns)) .nil, rfl, (fun _ _ e => by cases e), S ns hl hb, fun d C' v H' e r _ _ => ?_, fun _ _ _ _ _ z => z.elim⟩
  subst e
  cases r
  exact hq H'
theorem walk3 {l : PySem.W.OpenLaw} {q : Program} {loose : List Str} {XP : (Str → Option Value) → Heap → Prop} {YP : World → Heap → Prop} {d : DefRec} {K : Params → PySem.W.Frag} {x : Str} {k : Nat} (hn : l.most = some 63) (hdf : d.params.defaults = []) (hr : Room k callerA)
    (hY : ∀ (w : World) (h : Heap), YP w h → (K w.params).In h)
    (F : ∀ (w : World) (mg : Str → Option Value) (fa : Addr) (h : Heap), (K w.params).In h → h.Ns mainGlobals mg → mg d.name = some (.ref fa) →
      ∃ fd : FuncData, (∀ (s : Shared) (u : Value), BindsTo s fd ⟨[u], []⟩ [(x, u)]) ∧ ∀ base : Heap, (K w.params).In base → base.Ns mainGlobals mg → FnOkG l.prog w (K w.params) mg base (L2.CX l.prog w) k fa fd [x] (spL (K w.params))) :
    PySem.W.WalkO q loose XP YP l.row.toRowW d [] (fun f vs => PySem.call f vs) :=
  walk_ofG (n := 63) (k := k) (x := x) (CXx := fun w => L2.CX l.prog w) (sp := fun w => spL (K w.params)) hn (by decide) hdf hr hY F
    (fun w H a ns hl hb hO hS => ⟨a, ns, rfl, by
      rcases hS with (h | ⟨o, h⟩) | h
      · rcases hO a with z | ⟨o, xs, z⟩
        · rw [h] at z; cases z
        · rw [h] at z; cases z
      · exact .inl ⟨o, h⟩
      · exact .inr h, hl, hb, fun _ => rfl⟩) fun _ _ _ _ _ h => by
    obtain ⟨_, _, _, _, _, _, _, _, _, _, _, _, z⟩ := h
    exact z.elim
theorem wpN_eq (p : Prog3) (kit : String ⊕ Nat → String ⊕ Nat → Option Bool) (n f : Nat) (ds : List D) (C : CH) (Q : Kv) (E : Kx) (d : FDef) (h : p.get f = some d) (hl : ds.length = d.np) : wpN p kit (n + 1) f ds C Q E = rdSs (gN p kit n) (exN E) d.body (endN Q) (startN d.ns ds) C := by
  have e : wpN p kit (n + 1) f ds C Q E = (ds.length = d.np ∧ rdSs (gN p kit n) (exN E) d.body (endN Q) (startN d.ns ds) C) := by
    unfold wpN
    simp only [h]
    rfl
  rw [e]
  exact propext ⟨fun h => h.2, fun h => ⟨hl, h⟩⟩
theorem kitPlain_ok {K : PySem.W.Frag} {cl : ClsT} : AllP (KitP K cl) kitPlain := by
  unfold kitPlain
  repeat' first | exact trivial | refine ⟨kitP_ty (by rfl), ?_⟩
theorem kitPlain_c {K : PySem.W.Frag} {CL : List Addr} : AllP (fun q : (String ⊕ Nat) × (String ⊕ Nat) × Bool => ∀ c Ca, q.1 = .inr c → CL[c]? = some Ca → ClsOk K Ca) kitPlain := by
  unfold kitPlain
  repeat' first | exact trivial | refine ⟨fun _ _ e => (by cases e), ?_⟩
theorem relV_int {i : Int} {t : Tok} : RelV (.int i) (.int i t) := ⟨t, rfl⟩
theorem relV_bl {i : Bool} : RelV (.bl i) (.bool i) := rfl
theorem relV_str {i : Str} {t : Tok} : RelV (.str i) (.str i t) := ⟨t, rfl⟩
end L3

namespace L3
open PySem L2
/-! ### calls with keywords and defaults -/
section
variable {K : PySem.W.Frag} {fd : FuncData} {ps : List Str} {n : Nat} {ks : List Str} {gs : List Src}
/-- all are written, some by keywords -/
theorem bindsC_N (g : {α : Type} → List α → List α → List α)
    (hrel : ∀ {vs zs : List V} {us ws : List Value}, Vals vs us → Vals zs ws → Vals (g vs zs) (g us ws))
    (h : ∀ (us ws : List Value), us.length = n → ws.length = ks.length → bindArgs fd ⟨us, ks.zip ws⟩ = pure (ps.zip (g us ws)))
    (rel : ∀ H ds vs es zs, ds.length = n → es.length = ks.length → RepL K H ds vs → RepL K H es zs → RepL K H (gath gs ds es) (g vs zs)) : BindsC K fd ps n ks gs :=
  ⟨fun us ws => g us ws, fun vs zs => g vs zs, fun s us ws _ l1 l2 => .of_eq (h us ws l1 l2), hrel, rel⟩
/-- some are left out: the defaults are the tuple at T, the keyword-only ones stand in the dict at Dk -/
theorem bindsC_D {T Dk : Addr} {o : Obj} {its : List Value} {m : Nat} {dvs : List V} {ms : List (Str × V)} (g : {α : Type} → List α → List α → List α → List α → List α)
    (lT : K.lookup T = some o) (oT : o.data = .seq its.toArray m) (rT : Vals dvs its) (hq : ∀ q ∈ ms, ∃ u, PySem.W.nsIn K Dk q.1 = some (some u) ∧ RelV q.2 u)
    (hrel : ∀ {vs ds mz zs : List V} {us its mv ws : List Value}, Vals vs us → Vals ds its → Vals mz mv → Vals zs ws → Vals (g vs ds mz zs) (g us its mv ws))
    (h : ∀ (us mv ws : List Value), us.length = n → mv.length = ms.length → ws.length = ks.length →
      ∃ k, bindArgs fd ⟨us, ks.zip ws⟩ = seqItems? (.ref T) >>= k ∧ KwChain Dk ((ms.map (·.1)).zip mv) (k (some its.toArray)) (ps.zip (g us its mv ws)))
    (rel : ∀ H ds vs es zs, ds.length = n → es.length = ks.length → RepL K H ds vs → RepL K H es zs → RepL K H (gath gs ds es) (g vs dvs (ms.map (·.2)) zs)) : BindsC K fd ps n ks gs := by
  obtain ⟨mv, hl, rk, hks⟩ := kwd_vals (ms := ms) hq
  refine ⟨fun us ws => g us its mv ws, fun vs zs => g vs dvs (ms.map (·.2)) zs, fun s us ws X l1 l2 => ?_, fun r1 r2 => hrel r1 rT rk r2, rel⟩
  obtain ⟨k, e1, e2⟩ := h us mv ws l1 hl l2
  refine BindsTo.of_looks fun M => ?_
  rw [e1]
  exact looks_items X lT oT (KwChain.looks X hks e2)
end
/-! ### own classes, and what is of which kind -/
theorem AllP.app {α : Type} {P : α → Prop} : ∀ {xs ys : List α}, AllP P xs → AllP P ys → AllP P (xs ++ ys)
  | [], _, _, h => h
  | _ :: _, _, ⟨h, t⟩, g => ⟨h, AllP.app t g⟩
def ownQ (q : (String ⊕ Nat) × (String ⊕ Nat) × Bool) : Bool := match q.1, q.2.1 with
  | .inl _, .inl _ => false
  | _, _ => true
theorem kit_app : ∀ {own : Kit}, own.all ownQ = true → ∀ t u : String, Kit.get (own ++ kitPlain) (.inl t) (.inl u) = kitPlain.get (.inl t) (.inl u)
  | [], _, t, u => rfl
  | q :: own, h, t, u => by
    rw [List.all_cons, Bool.and_eq_true] at h
    have ih := kit_app h.2 t u
    have e : (decide (q.1 = .inl t) && decide (q.2.1 = .inl u)) = false := by
      obtain ⟨a, b, c⟩ := q
      have h1 := h.1
      cases a <;> cases b <;> first | (simp [ownQ] at h1; done) | simp
    unfold Kit.get at ih ⊢
    rw [List.cons_append, List.find?_cons, e]
    exact ih
theorem kitP_in {K : PySem.W.Frag} {cl : ClsT} {t : String} {c : Nat} {Ca : Addr} {b : Bool} (hc : cl c = some Ca) (h : PySem.W.kitOne K (.type t) (.ref Ca) = some b) : KitP K cl (.inl t, .inr c, b) := fun vt e => by
  have e' : vt = .type t := (Option.some.inj e).symm
  rw [e']
  exact ⟨.ref Ca, (show (cl c).map Value.ref = _ by rw [hc]; rfl), h⟩
theorem kitP_of {K : PySem.W.Frag} {cl : ClsT} {t : String} {c : Nat} {Ca : Addr} {b : Bool} (hc : cl c = some Ca) (h : PySem.W.kitOne K (.ref Ca) (.type t) = some b) : KitP K cl (.inr c, .inl t, b) := fun vt e => by
  have e1 : (cl c).map Value.ref = some vt := e
  rw [hc] at e1
  cases e1
  exact ⟨.type t, rfl, h⟩
theorem kitP_own {K : PySem.W.Frag} {cl : ClsT} {c d : Nat} {Ca Da : Addr} {b : Bool} (hc : cl c = some Ca) (hd : cl d = some Da) (h : PySem.W.kitOne K (.ref Ca) (.ref Da) = some b) : KitP K cl (.inr c, .inr d, b) := fun vt e => by
  have e1 : (cl c).map Value.ref = some vt := e
  rw [hc] at e1
  cases e1
  exact ⟨.ref Da, (show (cl d).map Value.ref = _ by rw [hd]; rfl), h⟩
theorem tyC_ins {C : CH} {p : Addr} {c : Nat} {fs : List (Str × D)} (h : C p = some (.ins c fs)) : tyC C (.ref p) = some (.inr c) := by simp [tyC, h]
theorem tyC_lst {C : CH} {p : Addr} {xs : List D} (h : C p = some (.lst xs)) : tyC C (.ref p) = some (.inl "list") := by simp [tyC, h]
end L3

namespace L3
open PySem L2
/-! ### data without addresses -/
inductive T where
  | non | bl (b : Bool) | int (i : Int) | str (x : Str) | tup (xs : List T)
mutual
def T.d : T → D
  | .non => .non
  | .bl b => .bl b
  | .int i => .int i
  | .str x => .str x
  | .tup xs => .tup (T.ds xs)
def T.ds : List T → List D
  | [] => []
  | x :: xs => x.d :: T.ds xs
end
theorem T.ds_map : ∀ xs : List T, T.ds xs = xs.map T.d
  | [] => rfl
  | x :: xs => by rw [T.ds, T.ds_map xs, List.map_cons]
theorem T.ds_length (xs : List T) : (T.ds xs).length = xs.length := by rw [T.ds_map, List.length_map]
mutual
def T.p : T → PyData
  | .non => .none
  | .bl b => .bool b
  | .int i => .int i
  | .str x => .str x
  | .tup xs => .tuple (T.pl xs)
def T.pl : List T → List PyData
  | [] => []
  | x :: xs => x.p :: T.pl xs
end
mutual
theorem T.snap (C : CH) : ∀ t : T, Snap C t.d t.p
  | .non => .non
  | .bl b => .bl b
  | .int i => .int i
  | .str x => .str x
  | .tup xs => .tup (T.snaps C xs)
theorem T.snaps (C : CH) : ∀ ts : List T, SnapL C (T.ds ts) (T.pl ts)
  | [] => .nil
  | x :: xs => .cons (T.snap C x) (T.snaps C xs)
end
/-! ### reading clean texts by simp -/
theorem SqC_tup {C : CH} {xs ds : List D} : SqC C (.tup xs) ds ↔ xs = ds := by
  unfold SqC
  constructor
  · rintro (h | h | ⟨p, h, _⟩)
    · exact D.tup.inj h
    · cases h
    · cases h
  · intro h; exact .inl (by rw [h])
theorem SqC_rls {C : CH} {xs ds : List D} : SqC C (.rls xs) ds ↔ xs = ds := by
  unfold SqC
  constructor
  · rintro (h | h | ⟨p, h, _⟩)
    · cases h
    · exact D.rls.inj h
    · cases h
  · intro h; exact .inr (.inl (by rw [h]))
theorem SqC_ref {C : CH} {p : Addr} {ds : List D} : SqC C (.ref p) ds ↔ C p = some (.lst ds) := by
  unfold SqC LsC
  constructor
  · rintro (h | h | ⟨q, h, h2⟩)
    · cases h
    · cases h
    · cases h; exact h2
  · intro h; exact .inr (.inr ⟨p, rfl, h⟩)
theorem SqC_str {C : CH} {z : Str} {ds : List D} : SqC C (.str z) ds ↔ False := by
  unfold SqC
  constructor
  · rintro (h | h | ⟨q, h, h2⟩) <;> cases h
  · exact False.elim
theorem SqC_int {C : CH} {z : Int} {ds : List D} : SqC C (.int z) ds ↔ False := by
  unfold SqC
  constructor
  · rintro (h | h | ⟨q, h, h2⟩) <;> cases h
  · exact False.elim
theorem LsC_iff {C : CH} {p : Addr} {ds : List D} : LsC C p ds ↔ C p = some (.lst ds) := Iff.rfl
theorem cup_old {C : CH} {p q : Addr} {o u : CO} (hp : C p = none) (hq : C q = some o) : cup C p u q = some o := by
  rw [cup_ne (fun e => by rw [e, hp] at hq; cases hq)]
  exact hq
theorem tyC_non {C : CH} : tyC C .non = some (.inl "NoneType") := rfl
theorem tyC_bl {C : CH} {b : Bool} : tyC C (.bl b) = some (.inl "bool") := rfl
theorem tyC_int {C : CH} {b : Int} : tyC C (.int b) = some (.inl "int") := rfl
theorem tyC_str {C : CH} {b : Str} : tyC C (.str b) = some (.inl "str") := rfl
theorem tyC_tup {C : CH} {b : List D} : tyC C (.tup b) = some (.inl "tuple") := rfl
theorem atI_nat {α : Type} {xs : List α} {i : Nat} {c : α} (h : xs[i]? = some c) : L2.atI xs (i : Int) = some c := L2.atI_nat h
theorem atI_zero {α : Type} {c : α} {r : List α} : L2.atI (c :: r) 0 = some c := L2.atI_nat (j := 0) rfl
theorem atI_one {α : Type} {b c : α} {r : List α} : L2.atI (b :: c :: r) 1 = some c := L2.atI_nat (j := 1) rfl
theorem atI_two {α : Type} {a b c : α} {r : List α} : L2.atI (a :: b :: c :: r) 2 = some c := L2.atI_nat (j := 2) rfl
theorem sl_lt0 : 0 < sizeLine := by decide
theorem sl_le0 : 0 ≤ sizeLine := by decide
theorem sl_lt1 : 1 < sizeLine := by decide
theorem sl_le1 : 1 ≤ sizeLine := by decide
theorem sl_lt2 : 2 < sizeLine := by decide
theorem sl_le2 : 2 ≤ sizeLine := by decide
theorem sl_lt3 : 3 < sizeLine := by decide
theorem sl_le3 : 3 ≤ sizeLine := by decide
theorem sl_lt4 : 4 < sizeLine := by decide
theorem sl_le4 : 4 ≤ sizeLine := by decide
theorem sl_lt5 : 5 < sizeLine := by decide
theorem sl_le5 : 5 ≤ sizeLine := by decide
theorem sl_lt6 : 6 < sizeLine := by decide
theorem sl_le6 : 6 ≤ sizeLine := by decide
theorem sl_lt7 : 7 < sizeLine := by decide
theorem sl_le7 : 7 ≤ sizeLine := by decide
theorem sl_lt8 : 8 < sizeLine := by decide
theorem sl_le8 : 8 ≤ sizeLine := by decide
theorem sl_lt9 : 9 < sizeLine := by decide
theorem sl_le9 : 9 ≤ sizeLine := by decide
theorem sl_lt10 : 10 < sizeLine := by decide
theorem sl_le10 : 10 ≤ sizeLine := by decide
theorem sl_lt11 : 11 < sizeLine := by decide
theorem sl_le11 : 11 ≤ sizeLine := by decide
theorem sl_lt12 : 12 < sizeLine := by decide
theorem sl_le12 : 12 ≤ sizeLine := by decide
theorem oInF_str2 {f : Bool → Bool} {w a b : Str} {C : CH} {Q : Kv} : oInF f (.str w) (.tup [.str a, .str b]) C Q ↔ Q (.bl (f (decide (w = a) || decide (w = b)))) C := by
  have e : L2.inV (toV (.str w)) ([D.str a, D.str b].map toV) = (decide (w = a) || decide (w = b)) := by
    show ((L2.eqV (.str a) (.str w)) || ((L2.eqV (.str b) (.str w)) || false)) = _
    rw [Bool.or_false]
    have q : ∀ x : Str, L2.eqV (.str x) (.str w) = decide (w = x) := fun x => by
      by_cases h : w = x
      · subst h; simp [L2.eqV]
      · have h' : ¬ x = w := fun z => h z.symm
        simp [L2.eqV, h, h']
    rw [q, q]
  constructor
  · rintro ⟨ds, h1, _, _, h⟩
    rw [SqC_tup] at h1
    subst h1
    rw [e] at h
    exact h
  · intro h
    exact ⟨_, SqC_tup.mpr rfl, rfl, rfl, by rw [e]; exact h⟩
theorem rdSs_cons {G : G3} {ex : Kxs} {s : CS} {r : List CS} {D : EndsC} {σ : Env3} {C : CH} : rdSs G ex (s :: r) D σ C = rdS G ex s { D with nx := rdSs G ex r D } σ C := rfl
theorem rdSs_nil {G : G3} {ex : Kxs} {D : EndsC} {σ : Env3} {C : CH} : rdSs G ex [] D σ C = D.nx σ C := rfl
theorem rdS_while {G : G3} {ex : Kxs} {t : CE} {b : List CS} {D : EndsC} {σ : Env3} {C : CH} : rdS G ex (.whileS t b) D σ C = ∃ m, whileN (rdT G ex t) (rdSs G ex b) D m σ C := rfl
theorem isLst_of {C : CH} {p : Addr} {xs : List D} (h : C p = some (.lst xs)) : isLst (.ref p) C := ⟨p, xs, rfl, h⟩
theorem oAddA_int {i j : Int} {C : CH} {Q : Kv} : oAddA (.int i) (.int j) C Q ↔ Q (.int (i + j)) C := Iff.rfl
theorem oAddA_str {i j : Str} {C : CH} {Q : Kv} : oAddA (.str i) (.str j) C Q ↔ i.length + j.length ≤ sizeLine ∧ Q (.str (i ++ j)) C := Iff.rfl
theorem oAddA_tup {i j : List D} {C : CH} {Q : Kv} : oAddA (.tup i) (.tup j) C Q ↔ i.length + j.length ≤ sizeLine ∧ Q (.tup (i ++ j)) C := Iff.rfl
theorem oI2_int {P : Int → Int → Prop} {g : Int → Int → D} {i j : Int} {C : CH} {Q : Kv} : oI2 P g (.int i) (.int j) C Q ↔ P i j ∧ Q (g i j) C := Iff.rfl
theorem oMulA_int {i j : Int} {C : CH} {Q : Kv} : oMulA (.int i) (.int j) C Q ↔ CMul i j ∧ Q (.int (i * j)) C := Iff.rfl
theorem oMulA_lst {p : Addr} {k : Int} {C : CH} {Q : Kv} : oMulA (.ref p) (.int k) C Q ↔ ∃ xs, C p = some (.lst xs) ∧ -(2 ^ 63) ≤ k ∧ k < 2 ^ 63 ∧ xs.length * k.toNat ≤ sizeLine ∧ ∀ p, C p = none → Q (.ref p) (cup C p (.lst (List.replicate k.toNat xs).flatten)) := Iff.rfl
theorem oMulA_tup {xs : List D} {k : Int} {C : CH} {Q : Kv} : oMulA (.tup xs) (.int k) C Q ↔ xs ≠ [] ∧ 1 ≤ k ∧ k ≤ 1000 ∧ xs.length ≤ 1000 ∧ Q (.tup (List.replicate k.toNat xs).flatten) C := Iff.rfl
theorem oIxA_tup {xs : List D} {i : Int} {C : CH} {Q : Kv} : oIxA (.tup xs) (.int i) C Q ↔ ∃ d, L2.atI xs i = some d ∧ Q d C := by
  show (∃ i' d, D.int i = .int i' ∧ L2.atI xs i' = some d ∧ Q d C) ↔ _
  simp
theorem oIxA_rls {xs : List D} {i : Int} {C : CH} {Q : Kv} : oIxA (.rls xs) (.int i) C Q ↔ ∃ d, L2.atI xs i = some d ∧ Q d C := by
  show (∃ i' d, D.int i = .int i' ∧ L2.atI xs i' = some d ∧ Q d C) ↔ _
  simp
theorem oIxA_str {z : Str} {i : Int} {C : CH} {Q : Kv} : oIxA (.str z) (.int i) C Q ↔ z.length ≤ sizeLine ∧ ∃ c, L2.atI z.cps.toList i = some c ∧ Q (.str ⟨#[c]⟩) C := by
  show (∃ i' c, D.int i = .int i' ∧ z.length ≤ sizeLine ∧ L2.atI z.cps.toList i' = some c ∧ Q (.str ⟨#[c]⟩) C) ↔ _
  simp
/-- an item of a list that is written, of a dict -/
theorem oIxA_lst {p : Addr} {xs : List D} {i : Int} {d : D} {C : CH} {Q : Kv} (h : C p = some (.lst xs)) (e : L2.atI xs i = some d) (q : Q d C) : oIxA (.ref p) (.int i) C Q := by
  unfold oIxA
  simp only [h]
  exact ⟨i, d, rfl, e, q⟩
theorem oIxA_dic {p : Addr} {kvs : List (L2.Key × D)} {y d : D} {k : L2.Key} {C : CH} {Q : Kv} (h : C p = some (.dic kvs)) (hk : keyD y = some k) (e : valC kvs k = some d) (q : Q d C) : oIxA (.ref p) y C Q := by
  unfold oIxA
  simp only [h]
  exact ⟨k, d, hk, e, q⟩
theorem oSl_tup {xs : List D} {lo hi : Option Int} {C : CH} {Q : Kv} : oSl (.tup xs) lo hi C Q ↔ Q (.tup (cutD xs lo hi)) C := Iff.rfl
theorem oSl_str {z : Str} {lo hi : Option Int} {C : CH} {Q : Kv} : oSl (.str z) lo hi C Q ↔ z.length ≤ sizeLine ∧ Q (.str (cutS z lo hi)) C := Iff.rfl
theorem oEqN_int {f : Bool → Bool} {i j : Int} {C : CH} {Q : Kv} : oEqN f (.int i) (.int j) C Q ↔ Q (.bl (f (decide (i = j)))) C := by
  constructor
  · rintro ⟨p, q, h1, h2, _, _, h⟩
    cases h1; cases h2
    exact h
  · intro h
    exact ⟨_, _, .int i, .int j, rfl, rfl, h⟩
theorem oEqN_bl {f : Bool → Bool} {i j : Bool} {C : CH} {Q : Kv} : oEqN f (.bl i) (.bl j) C Q ↔ Q (.bl (f (i == j))) C := by
  constructor
  · rintro ⟨p, q, h1, h2, _, _, h⟩
    cases h1; cases h2
    exact h
  · intro h
    exact ⟨_, _, .bl i, .bl j, rfl, rfl, h⟩
theorem oEqN_str {f : Bool → Bool} {i j : Str} {C : CH} {Q : Kv} (hi : PyData.strOk i = true) (hj : PyData.strOk j = true) (h : Q (.bl (f (i == j))) C) : oEqN f (.str i) (.str j) C Q := by
  exact ⟨_, _, .str i, .str j, by simp [deepOk, PyData.canLay0, PyData.depth, hi], by simp [deepOk, PyData.canLay0, PyData.depth, hj], h⟩
theorem oEqN_strI {f : Bool → Bool} {i j : Str} {C : CH} {Q : Kv} (hi : PyData.strOk i = true) (hj : PyData.strOk j = true) : oEqN f (.str i) (.str j) C Q ↔ Q (.bl (f (decide (i = j)))) C := by
  have e : (PyData.eqv (.str i) (.str j)) = decide (i = j) := by
    show (i == j) = _
    by_cases h : i = j <;> simp [h]
  constructor
  · rintro ⟨p, q, h1, h2, _, _, h⟩
    cases h1; cases h2
    rw [e] at h
    exact h
  · intro h
    exact ⟨_, _, .str i, .str j, by simp [deepOk, PyData.canLay0, PyData.depth, hi], by simp [deepOk, PyData.canLay0, PyData.depth, hj], by rw [e]; exact h⟩
theorem oEqN_T {f : Bool → Bool} {x y : T} {C : CH} {Q : Kv} (hx : deepOk x.p = true) (hy : deepOk y.p = true) (h : Q (.bl (f (PyData.eqv x.p y.p))) C) : oEqN f x.d y.d C Q := ⟨_, _, x.snap C, y.snap C, hx, hy, h⟩
theorem kP (t u : String) (b : Bool) (h : (kitPlain.get (.inl t) (.inl u) == some b) = true) : kitPlain.get (.inl t) (.inl u) = some b := by simpa using h
theorem k_NoneType_int : kitPlain.get (.inl "NoneType") (.inl "int") = some false := by decide +kernel
theorem k_bool_int : kitPlain.get (.inl "bool") (.inl "int") = some true := by decide +kernel
theorem k_int_int : kitPlain.get (.inl "int") (.inl "int") = some true := by decide +kernel
theorem k_str_int : kitPlain.get (.inl "str") (.inl "int") = some false := by decide +kernel
theorem k_tuple_int : kitPlain.get (.inl "tuple") (.inl "int") = some false := by decide +kernel
theorem k_list_int : kitPlain.get (.inl "list") (.inl "int") = some false := by decide +kernel
theorem k_dict_int : kitPlain.get (.inl "dict") (.inl "int") = some false := by decide +kernel
theorem k_NoneType_bool : kitPlain.get (.inl "NoneType") (.inl "bool") = some false := by decide +kernel
theorem k_bool_bool : kitPlain.get (.inl "bool") (.inl "bool") = some true := by decide +kernel
theorem k_int_bool : kitPlain.get (.inl "int") (.inl "bool") = some false := by decide +kernel
theorem k_str_bool : kitPlain.get (.inl "str") (.inl "bool") = some false := by decide +kernel
theorem k_tuple_bool : kitPlain.get (.inl "tuple") (.inl "bool") = some false := by decide +kernel
theorem k_list_bool : kitPlain.get (.inl "list") (.inl "bool") = some false := by decide +kernel
theorem k_dict_bool : kitPlain.get (.inl "dict") (.inl "bool") = some false := by decide +kernel
theorem k_NoneType_str : kitPlain.get (.inl "NoneType") (.inl "str") = some false := by decide +kernel
theorem k_bool_str : kitPlain.get (.inl "bool") (.inl "str") = some false := by decide +kernel
theorem k_int_str : kitPlain.get (.inl "int") (.inl "str") = some false := by decide +kernel
theorem k_str_str : kitPlain.get (.inl "str") (.inl "str") = some true := by decide +kernel
theorem k_tuple_str : kitPlain.get (.inl "tuple") (.inl "str") = some false := by decide +kernel
theorem k_list_str : kitPlain.get (.inl "list") (.inl "str") = some false := by decide +kernel
theorem k_dict_str : kitPlain.get (.inl "dict") (.inl "str") = some false := by decide +kernel
theorem k_NoneType_tuple : kitPlain.get (.inl "NoneType") (.inl "tuple") = some false := by decide +kernel
theorem k_bool_tuple : kitPlain.get (.inl "bool") (.inl "tuple") = some false := by decide +kernel
theorem k_int_tuple : kitPlain.get (.inl "int") (.inl "tuple") = some false := by decide +kernel
theorem k_str_tuple : kitPlain.get (.inl "str") (.inl "tuple") = some false := by decide +kernel
theorem k_tuple_tuple : kitPlain.get (.inl "tuple") (.inl "tuple") = some true := by decide +kernel
theorem k_list_tuple : kitPlain.get (.inl "list") (.inl "tuple") = some false := by decide +kernel
theorem k_dict_tuple : kitPlain.get (.inl "dict") (.inl "tuple") = some false := by decide +kernel
theorem k_NoneType_list : kitPlain.get (.inl "NoneType") (.inl "list") = some false := by decide +kernel
theorem k_bool_list : kitPlain.get (.inl "bool") (.inl "list") = some false := by decide +kernel
theorem k_int_list : kitPlain.get (.inl "int") (.inl "list") = some false := by decide +kernel
theorem k_str_list : kitPlain.get (.inl "str") (.inl "list") = some false := by decide +kernel
theorem k_tuple_list : kitPlain.get (.inl "tuple") (.inl "list") = some false := by decide +kernel
theorem k_list_list : kitPlain.get (.inl "list") (.inl "list") = some true := by decide +kernel
theorem k_dict_list : kitPlain.get (.inl "dict") (.inl "list") = some false := by decide +kernel

theorem len_cps (z : Str) : z.length = z.cps.toList.length := (Array.length_toList).symm
/-- a comprehension whose items are told by f, nothing is changed -/
theorem lcL_map {TT : CT} {vs : List Nat} {σ : Env3} {e : CTE} {G : CH → Prop} {Kq : List D → CH → Prop} (f : D → D) {C : CH} (hG : G C) : ∀ (ds acc : List D), (∀ d ∈ ds, ∃ σ2, bindT TT d (wipe3 σ vs) = some σ2 ∧ ∀ Q : Kv, Q (f d) C → e σ2 C Q) → acc.length + ds.length ≤ sizeLine → Kq (acc ++ ds.map f) C → lcL TT vs σ cYes e G Kq ds acc C
  | [], acc, _, _, h => ⟨hG, by simpa using h⟩
  | d :: ds, acc, h, hl, hk => by
    obtain ⟨σ2, e1, e2⟩ := h d List.mem_cons_self
    simp only [List.length_cons] at hl
    refine ⟨hG, σ2, e1, ?_⟩
    show e σ2 C _
    refine e2 _ ⟨by omega, lcL_map f hG ds (acc ++ [f d]) (fun d' hd => h d' (List.mem_cons_of_mem _ hd)) ?_ ?_⟩
    · rw [List.length_append]; simp only [List.length_cons, List.length_nil]; omega
    · simpa using hk
/-- all(..) of a new list of truths -/
theorem oAll_new {f : List Bool → D} {C : CH} {p : Addr} {bs : List Bool} {Q : Kv} {ds : List D} (e : ds = bs.map D.bl) (h : Q (f bs) (cup C p (.lst ds))) : oAll f [.ref p] (cup C p (.lst ds)) Q := ⟨p, bs, rfl, by rw [e]; exact cup_same, h⟩
theorem sub_new {C : CH} {p : Addr} {o : CO} (h : C p = none) : Sub C (cup C p o) := Sub.new h

theorem oMaxL1 {C : CH} {p : Addr} {i : Int} {Q : Kv} (h : C p = some (.lst [.int i])) (q : Q (.int i) C) : oMaxL [.ref p] C Q := ⟨p, [i], i, rfl, h, by simp, by simp, by simp, q⟩
theorem oMaxL2 {C : CH} {p : Addr} {i j : Int} {Q : Kv} (h : C p = some (.lst [.int i, .int j])) (q : Q (.int (if j > i then j else i)) C) : oMaxL [.ref p] C Q :=
  ⟨p, [i, j], _, rfl, h, by simp, by split <;> simp, fun y hy => by
    simp only [List.mem_cons, List.not_mem_nil, or_false] at hy
    rcases hy with rfl | rfl <;> split <;> omega, q⟩
theorem iSeq_tup {a : CTE} {σ : Env3} {C : CH} {xs : List D} {R : List D → (CH → Prop) → CH → Prop} (h : a σ C fun d C1 => d = .tup xs ∧ R xs (fun _ => True) C1) (hm : ∀ Q Q' : Kv, (∀ d C, Q d C → Q' d C) → a σ C Q → a σ C Q') : iSeq a σ C R :=
  hm _ _ (fun d C1 ⟨e, h⟩ => ⟨xs, .inl ⟨.inl e, h⟩⟩) h
/-- walking a tuple, a list -/
theorem seq_tup {xs : List D} {C : CH} {R : List D → (CH → Prop) → CH → Prop} (h : R xs (fun _ => True) C) : ∃ ds, ((D.tup xs = .tup ds ∨ D.tup xs = .rls ds) ∧ R ds (fun _ => True) C) ∨ (∃ p, D.tup xs = .ref p ∧ LsC C p ds ∧ R ds (fun C => LsC C p ds) C) := ⟨xs, .inl ⟨.inl rfl, h⟩⟩
theorem seq_rls {xs : List D} {C : CH} {R : List D → (CH → Prop) → CH → Prop} (h : R xs (fun _ => True) C) : ∃ ds, ((D.rls xs = .tup ds ∨ D.rls xs = .rls ds) ∧ R ds (fun _ => True) C) ∨ (∃ p, D.rls xs = .ref p ∧ LsC C p ds ∧ R ds (fun C => LsC C p ds) C) := ⟨xs, .inl ⟨.inr rfl, h⟩⟩
theorem seq_ref {q : Addr} {xs : List D} {C : CH} {R : List D → (CH → Prop) → CH → Prop} (e : C q = some (.lst xs)) (h : R xs (fun C => LsC C q xs) C) : ∃ ds, ((D.ref q = .tup ds ∨ D.ref q = .rls ds) ∧ R ds (fun _ => True) C) ∨ (∃ p, D.ref q = .ref p ∧ LsC C p ds ∧ R ds (fun C => LsC C p ds) C) := ⟨xs, .inr ⟨q, rfl, e, h⟩⟩

theorem cutD_tail {x : D} {xs : List D} : cutD (x :: xs) (some 1) none = xs := by
  unfold cutD
  have e1 : HT.sIx (x :: xs).length 0 (some 1) = 1 := by simp [HT.sIx]
  have e2 : HT.sIx (x :: xs).length (x :: xs).length none = (x :: xs).length := by simp [HT.sIx]
  rw [e1, e2]
  simp

theorem lcL_T0 {TT : CT} {vs : List Nat} {σ : Env3} {e : CTE} {G : CH → Prop} {Kq : List D → CH → Prop} (f : T → D) {C : CH} (hG : G C) : ∀ (ts : List T) (acc : List D), (∀ t ∈ ts, ∃ σ2, bindT TT t.d (wipe3 σ vs) = some σ2 ∧ ∀ Q : Kv, Q (f t) C → e σ2 C Q) → acc.length + ts.length ≤ sizeLine → Kq (acc ++ ts.map f) C → lcL TT vs σ cYes e G Kq (T.ds ts) acc C
  | [], acc, _, _, h => ⟨hG, by simpa using h⟩
  | d :: ds, acc, h, hl, hk => by
    obtain ⟨σ2, e1, e2⟩ := h d List.mem_cons_self
    simp only [List.length_cons] at hl
    refine ⟨hG, σ2, e1, ?_⟩
    show e σ2 C _
    refine e2 _ ⟨by omega, lcL_T0 f hG ds (acc ++ [f d]) (fun d' hd => h d' (List.mem_cons_of_mem _ hd)) ?_ ?_⟩
    · rw [List.length_append]; simp only [List.length_cons, List.length_nil]; omega
    · simpa using hk
theorem lcL_T {TT : CT} {vs : List Nat} {σ : Env3} {e : CTE} {G : CH → Prop} {Kq : List D → CH → Prop} (f : T → D) {C : CH} (hG : G C) (ts : List T) (h : ∀ t ∈ ts, ∃ σ2, bindT TT t.d (wipe3 σ vs) = some σ2 ∧ ∀ Q : Kv, Q (f t) C → e σ2 C Q) (hl : ts.length ≤ sizeLine) (hk : Kq (ts.map f) C) : lcL TT vs σ cYes e G Kq (T.ds ts) [] C :=
  lcL_T0 f hG ts [] h (by simpa using hl) (by simpa using hk)

theorem sub_at {C0 C : CH} {p : Addr} {o : CO} (hp : C0 p = none) (hs : Sub C0 C) : Sub C0 (cup C p o) := fun a u h => by
  rw [cup_ne (fun z => by rw [z, hp] at h; cases h)]
  exact hs a u h

theorem lcL_of0 {α : Type} {TT : CT} {vs : List Nat} {σ : Env3} {e : CTE} {G : CH → Prop} {Kq : List D → CH → Prop} (g f : α → D) {C : CH} (hG : G C) : ∀ (ts : List α) (acc : List D), (∀ t ∈ ts, ∃ σ2, bindT TT (g t) (wipe3 σ vs) = some σ2 ∧ ∀ Q : Kv, Q (f t) C → e σ2 C Q) → acc.length + ts.length ≤ sizeLine → Kq (acc ++ ts.map f) C → lcL TT vs σ cYes e G Kq (ts.map g) acc C
  | [], acc, _, _, h => ⟨hG, by simpa using h⟩
  | d :: ds, acc, h, hl, hk => by
    obtain ⟨σ2, e1, e2⟩ := h d List.mem_cons_self
    simp only [List.length_cons] at hl
    refine ⟨hG, σ2, e1, ?_⟩
    show e σ2 C _
    refine e2 _ ⟨by omega, lcL_of0 g f hG ds (acc ++ [f d]) (fun d' hd => h d' (List.mem_cons_of_mem _ hd)) ?_ ?_⟩
    · rw [List.length_append]; simp only [List.length_cons, List.length_nil]; omega
    · simpa using hk
theorem lcL_of {α : Type} {TT : CT} {vs : List Nat} {σ : Env3} {e : CTE} {G : CH → Prop} {Kq : List D → CH → Prop} (g f : α → D) {C : CH} (hG : G C) (ts : List α) (h : ∀ t ∈ ts, ∃ σ2, bindT TT (g t) (wipe3 σ vs) = some σ2 ∧ ∀ Q : Kv, Q (f t) C → e σ2 C Q) (hl : ts.length ≤ sizeLine) (hk : Kq (ts.map f) C) : lcL TT vs σ cYes e G Kq (ts.map g) [] C :=
  lcL_of0 g f hG ts [] h (by simpa using hl) (by simpa using hk)

/-- a comprehension with a test -/
theorem lcL_if0 {α : Type} {TT : CT} {vs : List Nat} {σ : Env3} {tt : CTT} {e : CTE} {G : CH → Prop} {Kq : List D → CH → Prop} (g f : α → D) (p : α → Bool) {C : CH} (hG : G C) : ∀ (ts : List α) (acc : List D), (∀ t ∈ ts, ∃ σ2, bindT TT (g t) (wipe3 σ vs) = some σ2 ∧ (∀ Q : Bool → CH → Prop, Q (p t) C → tt σ2 C Q) ∧ ∀ Q : Kv, Q (f t) C → e σ2 C Q) → acc.length + ts.length ≤ sizeLine → Kq (acc ++ (ts.filter p).map f) C → lcL TT vs σ tt e G Kq (ts.map g) acc C
  | [], acc, _, _, h => ⟨hG, by simpa using h⟩
  | d :: ds, acc, h, hl, hk => by
    obtain ⟨σ2, e1, e2, e3⟩ := h d List.mem_cons_self
    simp only [List.length_cons] at hl
    refine ⟨hG, σ2, e1, e2 _ ?_⟩
    by_cases hp : p d = true
    · rw [if_pos hp]
      refine e3 _ ⟨by omega, lcL_if0 g f p hG ds (acc ++ [f d]) (fun d' hd => h d' (List.mem_cons_of_mem _ hd)) ?_ ?_⟩
      · rw [List.length_append]; simp only [List.length_cons, List.length_nil]; omega
      · simpa [hp] using hk
    · rw [if_neg hp]
      refine lcL_if0 g f p hG ds acc (fun d' hd => h d' (List.mem_cons_of_mem _ hd)) (by omega) ?_
      simpa [hp] using hk
theorem lcL_if {α : Type} {TT : CT} {vs : List Nat} {σ : Env3} {tt : CTT} {e : CTE} {G : CH → Prop} {Kq : List D → CH → Prop} (g f : α → D) (p : α → Bool) {C : CH} (hG : G C) (ts : List α) (h : ∀ t ∈ ts, ∃ σ2, bindT TT (g t) (wipe3 σ vs) = some σ2 ∧ (∀ Q : Bool → CH → Prop, Q (p t) C → tt σ2 C Q) ∧ ∀ Q : Kv, Q (f t) C → e σ2 C Q) (hl : ts.length ≤ sizeLine) (hk : Kq ((ts.filter p).map f) C) : lcL TT vs σ tt e G Kq (ts.map g) [] C :=
  lcL_if0 g f p hG ts [] h (by simpa using hl) (by simpa using hk)
/-- a comprehension whose items change the heap: J is kept, R is told of each item -/
theorem lcL_run {TT : CT} {vs : List Nat} {σ : Env3} {e : CTE} {G : CH → Prop} {Kq : List D → CH → Prop} (J : Nat → CH → Prop) (R : D → Prop) (hG : ∀ k C, J k C → G C) :
    ∀ (items acc : List D) (C : CH), J items.length C → (∀ d ∈ acc, R d) → acc.length + items.length ≤ sizeLine → (∀ acc' C', J 0 C' → acc'.length = acc.length + items.length → (∀ d ∈ acc', R d) → Kq acc' C') →
      (∀ d ∈ items, ∀ k C, J (k + 1) C → ∃ σ2, bindT TT d (wipe3 σ vs) = some σ2 ∧ ∀ Q : Kv, (∀ y C', R y → J k C' → Q y C') → e σ2 C Q) → lcL TT vs σ cYes e G Kq items acc C
  | [], acc, C, hJ, hR, hl, hK, h => ⟨hG _ _ hJ, hK acc C hJ rfl hR⟩
  | d :: ds, acc, C, hJ, hR, hl, hK, h => by
    obtain ⟨σ2, e1, e2⟩ := h d List.mem_cons_self ds.length C hJ
    simp only [List.length_cons] at hl hK
    refine ⟨hG _ _ hJ, σ2, e1, ?_⟩
    show e σ2 C _
    refine e2 _ fun y C' hy hJ' => ⟨by omega, lcL_run J R hG ds (acc ++ [y]) C' hJ' ?_ ?_ ?_ fun d' hd => h d' (List.mem_cons_of_mem _ hd)⟩
    · intro d' hd'
      rcases List.mem_append.mp hd' with hd' | hd'
      · exact hR d' hd'
      · rw [List.mem_singleton.mp hd']; exact hy
    · rw [List.length_append]; simp only [List.length_cons, List.length_nil]; omega
    · intro acc' C' hJ0 hla hRa
      refine hK acc' C' hJ0 ?_ hRa
      rw [hla, List.length_append]; simp only [List.length_cons, List.length_nil]; omega
end L3

namespace My
open PySem L3
open L2 (inClass defArgs defBody defScope)
def top (i : Nat) : Stmt := PySem.Challenge.pw_loopforms_k65_filters_and_takers_joined.main.body.getD i (.Pass ⟨0, 0, 0, 0⟩)
abbrev i_is_number : Nat := 0
abbrev i_is_name : Nat := 1
abbrev i_is_word : Nat := 2
abbrev i_measured : Nat := 3
abbrev i_is_value : Nat := 4
abbrev i_is_term : Nat := 5
abbrev i_sizes_of : Nat := 6
abbrev i_highest : Nat := 7
abbrev i_may_use : Nat := 8
abbrev i_may_call : Nat := 9
abbrev i_is_shaped : Nat := 10
abbrev i_is_condition : Nat := 11
abbrev i_parts_of : Nat := 12
abbrev i_asks : Nat := 13
abbrev i_flat : Nat := 14
abbrev i_contrary : Nat := 15
abbrev i_settled : Nat := 16
abbrev i_value_in : Nat := 17
abbrev i_emitted_in : Nat := 18
abbrev i_condition_in : Nat := 19
abbrev i_level_in : Nat := 20
abbrev i_clause_in : Nat := 21
abbrev i_rise : Nat := 22
abbrev i_tallness : Nat := 23
abbrev i_tallest_in : Nat := 24
abbrev i_height_of : Nat := 25
abbrev i_top_of : Nat := 26
abbrev i_asks_in : Nat := 27
abbrev i_need_ : Nat := 28
abbrev i_need_joinable : Nat := 29
abbrev i_chained : Nat := 30
abbrev i_standings : Nat := 31
abbrev i_once_settled : Nat := 32
abbrev i_normal_clauses : Nat := 33
abbrev i_may_emit : Nat := 34
abbrev i_is_level : Nat := 35
abbrev i_is_clause : Nat := 36
abbrev i_need : Nat := 37
abbrev i_walked : Nat := 38
abbrev i_Form___init__ : Nat := 39
abbrev i_Form_parts : Nat := 40
abbrev i_Form_normal : Nat := 41
abbrev i_Form___len__ : Nat := 42
abbrev i_Form___eq__ : Nat := 43
abbrev i_Form___or__ : Nat := 44
abbrev i_kinds : Nat := 45
abbrev i__law_begin : Nat := 46
abbrev i__law_draw : Nat := 47
abbrev i__law_pick : Nat := 48
abbrev i__law_name : Nat := 49
abbrev i__law_height : Nat := 50
abbrev i__law_value : Nat := 51
abbrev i__law_term : Nat := 52
abbrev i__law_condition : Nat := 53
abbrev i__law_parts : Nat := 54
abbrev i__law_flat : Nat := 55
abbrev i__law_merged : Nat := 56
abbrev i_law : Nat := 57
abbrev c_LoopError : Nat := 0
abbrev c_NoValue : Nat := 1
abbrev c_NoForm : Nat := 2
abbrev c_NoFusing : Nat := 3
abbrev c_Form : Nat := 4
/-- is_number: slots 0=thing -/
def b_is_number : List CS := [(.ret (.and (.isi (.inl "int") (.var 0)) (.not (.isi (.inl "bool") (.var 0)))))]
/-- is_name: slots 0=thing 1=sign -/
def b_is_name : List CS := [(.ifS (.or (.not (.isi (.inl "str") (.var 0))) (.or (.not (.chain .le .le (.cst (.int 1)) (.bi .len [(.var 0)]) (.glb "MOST_SIGNS" (.int 8)))) (.cmp .notInS (.idx (.var 0) (.cst (.int 0))) (.glb "LETTERS" (.str "abcdefghijklmnopqrstuvwxyz"))))) [(.ret (.cst (.bl false)))] []), (.ret (.bi .all [(.lc (.cmp .inS (.var 1) (.glb "SIGNS" (.str "abcdefghijklmnopqrstuvwxyz0123456789"))) (.nm 1) [1] .txt [(.var 0)] [])]))]
/-- is_word: slots 0=thing 1=sign -/
def b_is_word : List CS := [(.ifS (.or (.not (.isi (.inl "str") (.var 0))) (.not (.chain .le .le (.cst (.int 1)) (.bi .len [(.var 0)]) (.glb "MOST_SIGNS" (.int 8))))) [(.ret (.cst (.bl false)))] []), (.ret (.bi .all [(.lc (.cmp .inS (.var 1) (.glb "CAPITALS" (.str "ABCDEFGHIJKLMNOPQRSTUVWXYZ"))) (.nm 1) [1] .txt [(.var 0)] [])]))]
/-- measured: slots 0=thing 1=room 2=parts 3=part -/
def b_measured : List CS := [(.ifS (.call i_is_number 1 1 0 [.pos 0] [(.var 0)] []) [(.ret (.ite (.chain .le .le (.cst (.int 1)) (.var 0) (.glb "MOST_LEVEL" (.int 3))) (.tup [(.cst (.int 0)), (.var 0)]) (.cst .non)))] []), (.ifS (.or (.cmp .eq (.var 1) (.cst (.int 0))) (.or (.not (.isi (.inl "tuple") (.var 0))) (.or (.not (.chain .le .le (.cst (.int 2)) (.bi .len [(.var 0)]) (.cst (.int 3)))) (.not (.call i_is_name 1 1 0 [.pos 0] [(.idx (.var 0) (.cst (.int 0)))] []))))) [(.ret (.cst .non))] []), (.asg (.nm 2) (.lc (.call i_measured 2 2 0 [.pos 0, .pos 1] [(.var 3), (.bin .sub (.var 1) (.cst (.int 1)))] []) (.nm 3) [3] .seq [(.slice (.var 0) (some (.cst (.int 1))) none)] [])), (.ifS (.cmp .inD (.cst .non) (.var 2)) [(.ret (.cst .non))] []), (.ret (.tup [(.bin .add (.cst (.int 1)) (.bi .maxL [(.lc (.idx (.var 3) (.cst (.int 0))) (.nm 3) [3] .seq [(.var 2)] [])])), (.bi .maxL [(.lc (.idx (.var 3) (.cst (.int 1))) (.nm 3) [3] .seq [(.var 2)] [])])]))]
/-- is_value: slots 0=thing -/
def b_is_value : List CS := [(.ret (.cmp .isNot (.call i_measured 2 2 0 [.pos 0, .pos 1] [(.var 0), (.glb "MOST_HEIGHT" (.int 4))] []) (.cst .non)))]
/-- is_term: slots 0=thing -/
def b_is_term : List CS := [(.ret (.and (.isi (.inl "tuple") (.var 0)) (.call i_is_value 1 1 0 [.pos 0] [(.var 0)] [])))]
/-- sizes_of: slots 0=value 1=found -/
def b_sizes_of : List CS := [(.asg (.nm 1) (.call i_measured 2 2 0 [.pos 0, .pos 1] [(.var 0), (.glb "MOST_HEIGHT" (.int 4))] [])), (.ifS (.cmp .is (.var 1) (.cst .non)) [(.raise 1)] []), (.ret (.var 1))]
/-- highest: slots 0=value -/
def b_highest : List CS := [(.ret (.idx (.call i_sizes_of 1 1 0 [.pos 0] [(.var 0)] []) (.cst (.int 1))))]
/-- may_use: slots 0=value 1=level 2=called -/
def b_may_use : List CS := [(.ifS (.not (.call i_is_value 1 1 0 [.pos 0] [(.var 0)] [])) [(.ret (.cst (.bl false)))] []), (.ifS (.call i_is_number 1 1 0 [.pos 0] [(.var 0)] []) [(.ret (.cmp .le (.var 0) (.var 1)))] []), (.ret (.ite (.call i_is_number 1 1 0 [.pos 0] [(.var 2)] []) (.cmp .le (.call i_highest 1 1 0 [.pos 0] [(.var 0)] []) (.var 2)) (.cmp .inD (.var 0) (.var 2))))]
/-- may_call: slots 0=term 1=level 2=called 3=value -/
def b_may_call : List CS := [(.ret (.and (.call i_is_term 1 1 0 [.pos 0] [(.var 0)] []) (.bi .all [(.lc (.call i_may_use 3 3 0 [.pos 0, .pos 1, .pos 2] [(.var 3), (.var 1), (.var 2)] []) (.nm 3) [3] .seq [(.slice (.var 0) (some (.cst (.int 1))) none)] [])])))]
/-- is_shaped: slots 0=thing -/
def b_is_shaped : List CS := [(.ifS (.or (.not (.isi (.inl "tuple") (.var 0))) (.or (.cmp .lt (.bi .len [(.var 0)]) (.cst (.int 2))) (.not (.isi (.inl "str") (.idx (.var 0) (.cst (.int 0))))))) [(.ret (.cst (.bl false)))] []), (.ifS (.cmp .inF (.idx (.var 0) (.cst (.int 0))) (.tup [(.cst (.str "and")), (.cst (.str "or"))])) [(.ret (.and (.cmp .eq (.bi .len [(.var 0)]) (.cst (.int 2))) (.and (.isi (.inl "tuple") (.idx (.var 0) (.cst (.int 1)))) (.cmp .gt (.bi .len [(.idx (.var 0) (.cst (.int 1)))]) (.cst (.int 1))))))] []), (.ifS (.cmp .eq (.idx (.var 0) (.cst (.int 0))) (.cst (.str "ask"))) [(.ret (.and (.cmp .eq (.bi .len [(.var 0)]) (.cst (.int 3))) (.isi (.inl "bool") (.idx (.var 0) (.cst (.int 2))))))] []), (.ret (.and (.cmp .inF (.idx (.var 0) (.cst (.int 0))) (.tup [(.cst (.str "any")), (.cst (.str "all"))])) (.cmp .eq (.bi .len [(.var 0)]) (.cst (.int 3)))))]
/-- is_condition: slots 0=thing 1=level 2=called 3=line 4=count 5=known 6=part 7=at 8=nest 9=one -/
def b_is_condition : List CS := [(.asg (.nm 3) (.lst [(.tup [(.var 0), (.var 1), (.cst (.int 1))])])), (.asg (.nm 4) (.cst (.int 0))), (.asg (.nm 5) (.ite (.cmp .is (.var 2) (.cst .non)) (.var 1) (.var 2))), (.whileS (.cmp .ne (.var 3) (.lst [])) [(.asg (.tp [6, 7, 8]) (.mt .pop (.var 3) [])), (.ifS (.or (.cmp .gt (.var 8) (.glb "DEEPEST" (.int 100))) (.or (.cmp .gt (.var 7) (.glb "HIGHEST_LEVEL_conditions" (.int 3))) (.not (.call i_is_shaped 1 1 0 [.pos 0] [(.var 6)] [])))) [(.ret (.cst (.bl false)))] []), (.ifS (.cmp .inF (.idx (.var 6) (.cst (.int 0))) (.tup [(.cst (.str "and")), (.cst (.str "or"))])) [(.expr (.mt .extend (.var 3) [(.lc (.tup [(.var 9), (.var 7), (.bin .add (.var 8) (.cst (.int 1)))]) (.nm 9) [9] .seq [(.idx (.var 6) (.cst (.int 1)))] [])]))] [(.ifS (.not (.call i_may_call 3 3 0 [.pos 0, .pos 1, .pos 2] [(.idx (.var 6) (.cst (.int 1))), (.var 7), (.var 5)] [])) [(.ret (.cst (.bl false)))] [(.ifS (.cmp .eq (.idx (.var 6) (.cst (.int 0))) (.cst (.str "ask"))) [(.asg (.nm 4) (.bin .add (.var 4) (.cst (.int 1))))] [(.expr (.mt .append (.var 3) [(.tup [(.idx (.var 6) (.cst (.int 2))), (.bin .add (.var 7) (.cst (.int 1))), (.bin .add (.var 8) (.cst (.int 1)))])]))])])]), (.ifS (.cmp .gt (.var 4) (.glb "MOST_ASKS_conditions" (.int 400))) [(.ret (.cst (.bl false)))] [])]), (.ret (.cst (.bl true)))]
/-- parts_of: slots 0=condition -/
def b_parts_of : List CS := [(.ifS (.cmp .inF (.idx (.var 0) (.cst (.int 0))) (.tup [(.cst (.str "and")), (.cst (.str "or"))])) [(.ret (.bi .list [(.idx (.var 0) (.cst (.int 1)))]))] []), (.ret (.ite (.cmp .eq (.idx (.var 0) (.cst (.int 0))) (.cst (.str "ask"))) (.lst []) (.lst [(.idx (.var 0) (.cst (.int 2)))])))]
/-- asks: slots 0=condition 1=line 2=count 3=part -/
def b_asks : List CS := [(.asg (.nm 1) (.lst [(.var 0)])), (.asg (.nm 2) (.cst (.int 0))), (.whileS (.cmp .ne (.var 1) (.lst [])) [(.asg (.nm 3) (.mt .pop (.var 1) [])), (.asg (.nm 2) (.bin .add (.var 2) (.bi .int [(.cmp .eq (.idx (.var 3) (.cst (.int 0))) (.cst (.str "ask")))]))), (.expr (.mt .extend (.var 1) [(.call i_parts_of 1 1 0 [.pos 0] [(.var 3)] [])]))]), (.ret (.var 2))]
/-- flat: slots 0=word 1=parts 2=found 3=part -/
def b_flat : List CS := [(.asg (.nm 2) (.lst [])), (.forS (.nm 3) .seq [(.var 1)] [(.expr (.mt .extend (.var 2) [(.ite (.cmp .eq (.idx (.var 3) (.cst (.int 0))) (.var 0)) (.idx (.var 3) (.cst (.int 1))) (.lst [(.var 3)]))]))]), (.ret (.tup [(.var 0), (.bi .tuple [(.var 2)])]))]
/-- contrary: slots 0=word -/
def b_contrary : List CS := [(.ret (.idx (.dic [(.cst (.str "and")), (.cst (.str "or")), (.cst (.str "any")), (.cst (.str "all"))] [(.cst (.str "or")), (.cst (.str "and")), (.cst (.str "all")), (.cst (.str "any"))]) (.var 0)))]
/-- settled: slots 0=condition 1=truth 2=word 3=part -/
def b_settled : List CS := [(.ifS (.cmp .eq (.idx (.var 0) (.cst (.int 0))) (.cst (.str "ask"))) [(.ret (.tup [(.cst (.str "ask")), (.idx (.var 0) (.cst (.int 1))), (.cmp .eq (.idx (.var 0) (.cst (.int 2))) (.var 1))]))] []), (.asg (.nm 2) (.ite (.var 1) (.idx (.var 0) (.cst (.int 0))) (.call i_contrary 1 1 0 [.pos 0] [(.idx (.var 0) (.cst (.int 0)))] []))), (.ifS (.cmp .inF (.var 2) (.tup [(.cst (.str "and")), (.cst (.str "or"))])) [(.ret (.call i_flat 2 2 0 [.pos 0, .pos 1] [(.var 2), (.lc (.call i_settled 2 2 0 [.pos 0, .pos 1] [(.var 3), (.var 1)] []) (.nm 3) [3] .seq [(.idx (.var 0) (.cst (.int 1)))] [])] []))] []), (.ret (.tup [(.var 2), (.idx (.var 0) (.cst (.int 1))), (.call i_settled 2 2 0 [.pos 0, .pos 1] [(.idx (.var 0) (.cst (.int 2))), (.var 1)] [])]))]
/-- value_in: slots 0=value 1=item 2=depth 3=part -/
def b_value_in : List CS := [(.ifS (.isi (.inl "tuple") (.var 0)) [(.ret (.tupS (.idx (.var 0) (.cst (.int 0))) (.lc (.call i_value_in 3 3 0 [.pos 0, .pos 1, .pos 2] [(.var 3), (.var 1), (.var 2)] []) (.nm 3) [3] .seq [(.slice (.var 0) (some (.cst (.int 1))) none)] [])))] []), (.ret (.ite (.cmp .eq (.var 0) (.cst (.int 1))) (.var 1) (.bin .sub (.bin .add (.var 0) (.var 2)) (.cst (.int 1)))))]
/-- emitted_in: slots 0=what 1=item 2=depth -/
def b_emitted_in : List CS := [(.ret (.ite (.or (.cmp .is (.var 0) (.cst .non)) (.isi (.inl "str") (.var 0))) (.var 0) (.call i_value_in 3 3 0 [.pos 0, .pos 1, .pos 2] [(.var 0), (.var 1), (.var 2)] [])))]
/-- condition_in: slots 0=condition 1=item 2=depth 3=word 4=part -/
def b_condition_in : List CS := [(.asg (.nm 3) (.idx (.var 0) (.cst (.int 0)))), (.ifS (.cmp .eq (.var 3) (.cst (.str "ask"))) [(.ret (.tup [(.var 3), (.call i_value_in 3 3 0 [.pos 0, .pos 1, .pos 2] [(.idx (.var 0) (.cst (.int 1))), (.var 1), (.var 2)] []), (.idx (.var 0) (.cst (.int 2)))]))] []), (.ifS (.cmp .inF (.var 3) (.tup [(.cst (.str "and")), (.cst (.str "or"))])) [(.ret (.tup [(.var 3), (.bi .tuple [(.lc (.call i_condition_in 3 3 0 [.pos 0, .pos 1, .pos 2] [(.var 4), (.var 1), (.var 2)] []) (.nm 4) [4] .seq [(.idx (.var 0) (.cst (.int 1)))] [])])]))] []), (.ret (.tup [(.var 3), (.call i_value_in 3 3 0 [.pos 0, .pos 1, .pos 2] [(.idx (.var 0) (.cst (.int 1))), (.var 1), (.var 2)] []), (.call i_condition_in 3 3 0 [.pos 0, .pos 1, .pos 2] [(.idx (.var 0) (.cst (.int 2))), (.var 1), (.var 2)] [])]))]
/-- level_in: slots 0=level 1=first 2=depth -/
def b_level_in : List CS := [(.ifS (.cmp .eq (.var 0) (.cst (.int 0))) [(.ret (.cst (.int 0)))] []), (.ret (.ite (.cmp .eq (.var 0) (.cst (.int 1))) (.var 1) (.bin .sub (.bin .add (.var 0) (.var 2)) (.cst (.int 1)))))]
/-- clause_in: slots 0=clause 1=item 2=first 3=depth 4=word -/
def b_clause_in : List CS := [(.asg (.nm 4) (.idx (.var 0) (.cst (.int 0)))), (.ifS (.cmp .eq (.var 4) (.cst (.str "call"))) [(.ret (.tup [(.var 4), (.call i_value_in 3 3 0 [.pos 0, .pos 1, .pos 2] [(.idx (.var 0) (.cst (.int 1))), (.var 1), (.var 3)] [])]))] []), (.ifS (.cmp .eq (.var 4) (.cst (.str "if"))) [(.ret (.tup [(.var 4), (.call i_condition_in 3 3 0 [.pos 0, .pos 1, .pos 2] [(.idx (.var 0) (.cst (.int 1))), (.var 1), (.var 3)] []), (.call i_level_in 3 3 0 [.pos 0, .pos 1, .pos 2] [(.idx (.var 0) (.cst (.int 2))), (.var 2), (.var 3)] [])]))] []), (.ifS (.cmp .eq (.var 4) (.cst (.str "from"))) [(.ret (.tup [(.var 4), (.call i_condition_in 3 3 0 [.pos 0, .pos 1, .pos 2] [(.idx (.var 0) (.cst (.int 1))), (.var 1), (.var 3)] [])]))] []), (.ret (.tup [(.var 4), (.call i_value_in 3 3 0 [.pos 0, .pos 1, .pos 2] [(.idx (.var 0) (.cst (.int 1))), (.var 1), (.var 3)] []), (.call i_emitted_in 3 3 0 [.pos 0, .pos 1, .pos 2] [(.idx (.var 0) (.cst (.int 2))), (.var 1), (.var 3)] [])]))]
/-- rise: slots 0=condition 1=word 2=part -/
def b_rise : List CS := [(.asg (.nm 1) (.idx (.var 0) (.cst (.int 0)))), (.ifS (.cmp .eq (.var 1) (.cst (.str "ask"))) [(.ret (.cst (.int 0)))] []), (.ifS (.cmp .inF (.var 1) (.tup [(.cst (.str "and")), (.cst (.str "or"))])) [(.ret (.bi .maxL [(.lc (.call i_rise 1 1 0 [.pos 0] [(.var 2)] []) (.nm 2) [2] .seq [(.idx (.var 0) (.cst (.int 1)))] [])]))] []), (.ret (.bin .add (.cst (.int 1)) (.call i_rise 1 1 0 [.pos 0] [(.idx (.var 0) (.cst (.int 2)))] [])))]
/-- tallness: slots 0=value 1=part -/
def b_tallness : List CS := [(.ret (.ite (.isi (.inl "tuple") (.var 0)) (.bin .add (.cst (.int 1)) (.bi .maxL [(.lc (.call i_tallness 1 1 0 [.pos 0] [(.var 1)] []) (.nm 1) [1] .seq [(.slice (.var 0) (some (.cst (.int 1))) none)] [])])) (.cst (.int 0))))]
/-- tallest_in: slots 0=condition 1=word 2=part -/
def b_tallest_in : List CS := [(.asg (.nm 1) (.idx (.var 0) (.cst (.int 0)))), (.ifS (.cmp .eq (.var 1) (.cst (.str "ask"))) [(.ret (.call i_tallness 1 1 0 [.pos 0] [(.idx (.var 0) (.cst (.int 1)))] []))] []), (.ifS (.cmp .inF (.var 1) (.tup [(.cst (.str "and")), (.cst (.str "or"))])) [(.ret (.bi .maxL [(.lc (.call i_tallest_in 1 1 0 [.pos 0] [(.var 2)] []) (.nm 2) [2] .seq [(.idx (.var 0) (.cst (.int 1)))] [])]))] []), (.ret (.bi .max2 [(.call i_tallness 1 1 0 [.pos 0] [(.idx (.var 0) (.cst (.int 1)))] []), (.call i_tallest_in 1 1 0 [.pos 0] [(.idx (.var 0) (.cst (.int 2)))] [])]))]
/-- height_of: slots 0=clause 1=word -/
def b_height_of : List CS := [(.asg (.nm 1) (.idx (.var 0) (.cst (.int 0)))), (.ifS (.cmp .eq (.var 1) (.cst (.str "call"))) [(.ret (.call i_tallness 1 1 0 [.pos 0] [(.idx (.var 0) (.cst (.int 1)))] []))] []), (.ifS (.cmp .eq (.var 1) (.cst (.str "for"))) [(.ret (.bi .max2 [(.call i_tallness 1 1 0 [.pos 0] [(.idx (.var 0) (.cst (.int 1)))] []), (.call i_tallness 1 1 0 [.pos 0] [(.idx (.var 0) (.cst (.int 2)))] [])]))] []), (.ret (.call i_tallest_in 1 1 0 [.pos 0] [(.idx (.var 0) (.cst (.int 1)))] []))]
/-- top_of: slots 0=clauses 1=depth 2=clause 3=level 4=top -/
def b_top_of : List CS := [(.par 3 4 (.var 1) (.var 1)), (.forS (.nm 2) .seq [(.var 0)] [(.ifS (.cmp .inF (.idx (.var 2) (.cst (.int 0))) (.tup [(.cst (.str "if")), (.cst (.str "from"))])) [(.asg (.nm 4) (.bi .max2 [(.var 4), (.bin .add (.var 3) (.call i_rise 1 1 0 [.pos 0] [(.idx (.var 2) (.cst (.int 1)))] []))]))] []), (.ifS (.cmp .eq (.idx (.var 2) (.cst (.int 0))) (.cst (.str "for"))) [(.asg (.nm 3) (.bin .add (.var 3) (.cst (.int 1))))] [])]), (.ret (.bi .max2 [(.var 4), (.var 3)]))]
/-- asks_in: slots 0=clauses 1=clause -/
def b_asks_in : List CS := [(.ret (.bi .sum [(.lc (.call i_asks 1 1 0 [.pos 0] [(.idx (.var 1) (.cst (.int 1)))] []) (.nm 1) [1] .seq [(.var 0)] [(.cmp .inF (.idx (.var 1) (.cst (.int 0))) (.tup [(.cst (.str "if")), (.cst (.str "from"))]))])]))]
/-- need: slots 0=good 1=why -/
def b_need_ : List CS := [(.ifS (.not (.var 0)) [(.raiseE 3 (.var 1))] [])]
/-- need_joinable: slots 0=one 1=other 2=words 3=ends 4=clauses 5=value 6=level 7=end 8=depth 9=clause -/
def b_need_joinable : List CS := [(.asg (.tp [4, 5, 6, 7, 8]) (.var 0)), (.asg (.nm 2) (.lc (.idx (.var 9) (.cst (.int 0))) (.nm 9) [9] .seq [(.idx (.var 1) (.cst (.int 0)))] [])), (.asg (.nm 3) (.or (.cmp .eq (.var 6) (.cst (.int 0))) (.bi .any [(.lc (.and (.cmp .eq (.idx (.var 9) (.cst (.int 0))) (.cst (.str "if"))) (.cmp .eq (.idx (.var 9) (.cst (.int 2))) (.cst (.int 0)))) (.nm 9) [9] .seq [(.var 4)] [])]))), (.expr (.call i_need_ 2 2 0 [.pos 0, .pos 1] [(.not (.isi (.inl "str") (.var 5))), (.cst (.str "the first form emits a word"))] [])), (.expr (.call i_need_ 2 2 0 [.pos 0, .pos 1] [(.and (.cmp .is (.var 7) (.cst .non)) (.bi .all [(.lc (.or (.cmp .ne (.idx (.var 9) (.cst (.int 0))) (.cst (.str "for"))) (.cmp .is (.idx (.var 9) (.cst (.int 2))) (.cst .non))) (.nm 9) [9] .seq [(.var 4)] [])])), (.cst (.str "the first form emits at the end of a source"))] [])), (.expr (.call i_need_ 2 2 0 [.pos 0, .pos 1] [(.or (.cmp .is (.idx (.var 1) (.cst (.int 3))) (.cst .non)) (.not (.var 3))), (.cst (.str "the first form may end before its outer source"))] [])), (.expr (.call i_need_ 2 2 0 [.pos 0, .pos 1] [(.or (.cmp .eq (.var 6) (.var 8)) (.and (.cmp .notInF (.cst (.str "for")) (.var 2)) (.cmp .notInF (.cst (.str "from")) (.var 2)))), (.cst (.str "the first form leaves a source"))] [])), (.expr (.call i_need_ 2 2 0 [.pos 0, .pos 1] [(.cmp .le (.bin .add (.bi .len [(.var 4)]) (.bi .len [(.var 2)])) (.glb "MOST_CLAUSES_joining" (.int 400))), (.cst (.str "there are too many clauses"))] [])), (.expr (.call i_need_ 2 2 0 [.pos 0, .pos 1] [(.cmp .le (.bin .add (.call i_asks_in 1 1 0 [.pos 0] [(.var 4)] []) (.call i_asks_in 1 1 0 [.pos 0] [(.idx (.var 1) (.cst (.int 0)))] [])) (.glb "MOST_ASKS_joining" (.int 400))), (.cst (.str "there are too many questions"))] [])), (.expr (.call i_need_ 2 2 0 [.pos 0, .pos 1] [(.cmp .le (.call i_top_of 2 2 0 [.pos 0, .pos 1] [(.idx (.var 1) (.cst (.int 0))), (.var 8)] []) (.glb "HIGHEST_LEVEL_joining" (.int 3))), (.cst (.str "a level is too high"))] []))]
/-- chained: slots 0=one 1=other 2=clauses 3=value 4=heights 5=item 6=first 7=depth 8=clause -/
def b_chained : List CS := [(.expr (.call i_need_joinable 2 2 0 [.pos 0, .pos 1] [(.var 0), (.var 1)] [])), (.asg (.tp [5, 6, 7]) (.tup [(.idx (.var 0) (.cst (.int 1))), (.idx (.var 0) (.cst (.int 2))), (.idx (.var 0) (.cst (.int 4)))])), (.asg (.nm 2) (.lc (.call i_clause_in 4 4 0 [.pos 0, .pos 1, .pos 2, .pos 3] [(.var 8), (.var 5), (.var 6), (.var 7)] []) (.nm 8) [8] .seq [(.idx (.var 1) (.cst (.int 0)))] [])), (.asg (.nm 3) (.call i_emitted_in 3 3 0 [.pos 0, .pos 1, .pos 2] [(.idx (.var 1) (.cst (.int 1))), (.var 5), (.var 7)] [])), (.asg (.nm 4) (.bin .add (.lst [(.call i_tallness 1 1 0 [.pos 0] [(.var 3)] [])]) (.lc (.call i_height_of 1 1 0 [.pos 0] [(.var 8)] []) (.nm 8) [8] .seq [(.var 2)] []))), (.expr (.call i_need_ 2 2 0 [.pos 0, .pos 1] [(.cmp .le (.bi .maxL [(.var 4)]) (.glb "GREATEST_HEIGHT" (.int 4))), (.cst (.str "a term is too high"))] [])), (.ret (.tup [(.bin .add (.idx (.var 0) (.cst (.int 0))) (.bi .tuple [(.var 2)])), (.var 3), (.call i_level_in 3 3 0 [.pos 0, .pos 1, .pos 2] [(.idx (.var 1) (.cst (.int 2))), (.var 6), (.var 7)] []), (.idx (.var 1) (.cst (.int 3)))]))]
/-- standings: slots 0=clauses 1=found 2=level 3=clause -/
def b_standings : List CS := [(.asg (.nm 1) (.lst [])), (.asg (.nm 2) (.cst (.int 1))), (.forS (.nm 3) .seq [(.var 0)] [(.expr (.mt .append (.var 1) [(.var 2)])), (.asg (.nm 2) (.bin .add (.var 2) (.bi .int [(.cmp .eq (.idx (.var 3) (.cst (.int 0))) (.cst (.str "for")))])))]), (.ret (.var 1))]
/-- once_settled: slots 0=clauses 1=level 2=stands 3=found 4=lowest 5=clause 6=at 7=condition -/
def b_once_settled : List CS := [(.asg (.nm 2) (.call i_standings 1 1 0 [.pos 0] [(.var 0)] [])), (.asg (.nm 3) (.lst [])), (.asg (.nm 4) (.ite (.cmp .gt (.var 1) (.cst (.int 0))) (.var 1) (.bin .add (.glb "HIGHEST_LEVEL_conditions" (.int 3)) (.cst (.int 1))))), (.forS (.tp [5, 6]) .seq [(.rev (.lzip (.var 0) (.var 2)))] [(.ifS (.cmp .eq (.idx (.var 5) (.cst (.int 0))) (.cst (.str "if"))) [(.expr (.mt .append (.var 3) [(.tup [(.cst (.str "if")), (.call i_settled 2 2 0 [.pos 0, .pos 1] [(.idx (.var 5) (.cst (.int 1))), (.cst (.bl true))] []), (.idx (.var 5) (.cst (.int 2)))])])), (.asg (.nm 4) (.ite (.cmp .gt (.idx (.var 5) (.cst (.int 2))) (.cst (.int 0))) (.bi .min2 [(.var 4), (.idx (.var 5) (.cst (.int 2)))]) (.var 4)))] [(.ifS (.cmp .eq (.idx (.var 5) (.cst (.int 0))) (.cst (.str "from"))) [(.asg (.nm 7) (.call i_settled 2 2 0 [.pos 0, .pos 1] [(.idx (.var 5) (.cst (.int 1))), (.cst (.bl true))] [])), (.expr (.mt .append (.var 3) [(.ite (.cmp .le (.var 4) (.var 6)) (.tup [(.cst (.str "from")), (.var 7)]) (.tup [(.cst (.str "if")), (.var 7), (.var 6)]))])), (.asg (.nm 4) (.bi .min2 [(.var 4), (.var 6)]))] [(.expr (.mt .append (.var 3) [(.var 5)])), (.asg (.nm 4) (.ite (.cmp .eq (.idx (.var 5) (.cst (.int 0))) (.cst (.str "for"))) (.bi .min2 [(.var 4), (.var 6)]) (.var 4)))])])]), (.ret (.rev (.var 3)))]
/-- normal_clauses: slots 0=clauses 1=level 2=found 3=clause -/
def b_normal_clauses : List CS := [(.asg (.nm 2) (.lst [])), (.forS (.nm 3) .seq [(.call i_once_settled 2 2 0 [.pos 0, .pos 1] [(.var 0), (.var 1)] [])] [(.ifS (.and (.cmp .ne (.var 2) (.lst [])) (.and (.cmp .eq (.idx (.var 3) (.cst (.int 0))) (.cst (.str "if"))) (.and (.cmp .eq (.idx (.idx (.var 2) (.neg (.cst (.int 1)))) (.cst (.int 0))) (.cst (.str "if"))) (.cmp .eq (.idx (.idx (.var 2) (.neg (.cst (.int 1)))) (.cst (.int 2))) (.idx (.var 3) (.cst (.int 2))))))) [(.setI (.var 2) (.neg (.cst (.int 1))) (.tup [(.cst (.str "if")), (.call i_flat 2 2 0 [.pos 0, .pos 1] [(.cst (.str "and")), (.lst [(.idx (.idx (.var 2) (.neg (.cst (.int 1)))) (.cst (.int 1))), (.idx (.var 3) (.cst (.int 1)))])] []), (.idx (.var 3) (.cst (.int 2)))]))] [(.expr (.mt .append (.var 2) [(.var 3)]))])]), (.ret (.bi .tuple [(.var 2)]))]
/-- may_emit: slots 0=what 1=level 2=called -/
def b_may_emit : List CS := [(.ret (.or (.call i_is_word 1 1 0 [.pos 0] [(.var 0)] []) (.call i_may_use 3 3 0 [.pos 0, .pos 1, .pos 2] [(.var 0), (.var 1), (.var 2)] [])))]
/-- is_level: slots 0=thing 1=highest_one -/
def b_is_level : List CS := [(.ret (.and (.call i_is_number 1 1 0 [.pos 0] [(.var 0)] []) (.chain .le .le (.cst (.int 0)) (.var 0) (.var 1))))]
/-- is_clause: slots 0=thing 1=level 2=called -/
def b_is_clause : List CS := [(.ifS (.or (.not (.isi (.inl "tuple") (.var 0))) (.or (.cmp .lt (.bi .len [(.var 0)]) (.cst (.int 2))) (.not (.isi (.inl "str") (.idx (.var 0) (.cst (.int 0))))))) [(.ret (.cst (.bl false)))] []), (.ifS (.cmp .eq (.idx (.var 0) (.cst (.int 0))) (.cst (.str "call"))) [(.ret (.and (.cmp .eq (.bi .len [(.var 0)]) (.cst (.int 2))) (.call i_may_call 3 3 0 [.pos 0, .pos 1, .pos 2] [(.idx (.var 0) (.cst (.int 1))), (.var 1), (.var 2)] [])))] []), (.ifS (.cmp .eq (.idx (.var 0) (.cst (.int 0))) (.cst (.str "from"))) [(.ret (.and (.cmp .eq (.bi .len [(.var 0)]) (.cst (.int 2))) (.call i_is_condition 3 3 0 [.pos 0, .pos 1, .pos 2] [(.idx (.var 0) (.cst (.int 1))), (.var 1), (.var 2)] [])))] []), (.ifS (.cmp .eq (.idx (.var 0) (.cst (.int 0))) (.cst (.str "if"))) [(.ret (.and (.cmp .eq (.bi .len [(.var 0)]) (.cst (.int 3))) (.and (.call i_is_condition 3 3 0 [.pos 0, .pos 1, .pos 2] [(.idx (.var 0) (.cst (.int 1))), (.var 1), (.var 2)] []) (.call i_is_level 2 2 0 [.pos 0, .pos 1] [(.idx (.var 0) (.cst (.int 2))), (.var 1)] []))))] []), (.ifS (.or (.cmp .ne (.idx (.var 0) (.cst (.int 0))) (.cst (.str "for"))) (.or (.cmp .ne (.bi .len [(.var 0)]) (.cst (.int 3))) (.cmp .eq (.var 1) (.glb "HIGHEST_LEVEL_conditions" (.int 3))))) [(.ret (.cst (.bl false)))] []), (.ret (.and (.call i_may_call 3 3 0 [.pos 0, .pos 1, .pos 2] [(.idx (.var 0) (.cst (.int 1))), (.var 1), (.var 2)] []) (.or (.cmp .is (.idx (.var 0) (.cst (.int 2))) (.cst .non)) (.call i_may_emit 3 3 0 [.pos 0, .pos 1, .pos 2] [(.idx (.var 0) (.cst (.int 2))), (.var 1), (.var 2)] []))))]
/-- need: slots 0=good 1=why -/
def b_need : List CS := [(.ifS (.not (.var 0)) [(.raiseE 2 (.var 1))] [])]
/-- walked: slots 0=clauses 1=called 2=level 3=count 4=clause -/
def b_walked : List CS := [(.asg (.nm 1) (.lst [])), (.asg (.nm 2) (.cst (.int 1))), (.asg (.nm 3) (.cst (.int 0))), (.forS (.nm 4) .seq [(.var 0)] [(.expr (.call i_need 2 2 0 [.pos 0, .pos 1] [(.call i_is_clause 3 3 0 [.pos 0, .pos 1, .pos 2] [(.var 4), (.var 2), (.var 1)] []), (.cst (.str "no clause at its place"))] [])), (.ifS (.cmp .eq (.idx (.var 4) (.cst (.int 0))) (.cst (.str "call"))) [(.expr (.mt .append (.var 1) [(.idx (.var 4) (.cst (.int 1)))]))] [(.ifS (.cmp .eq (.idx (.var 4) (.cst (.int 0))) (.cst (.str "for"))) [(.asg (.nm 2) (.bin .add (.var 2) (.cst (.int 1))))] [(.asg (.nm 3) (.bin .add (.var 3) (.call i_asks 1 1 0 [.pos 0] [(.idx (.var 4) (.cst (.int 1)))] [])))])]), (.expr (.call i_need 2 2 0 [.pos 0, .pos 1] [(.cmp .le (.var 3) (.glb "MOST_ASKS_conditions" (.int 400))), (.cst (.str "too many questions"))] []))]), (.ret (.tup [(.var 2), (.var 1)]))]
/-- Form.__init__: slots 0=self 1=clauses 2=value 3=level 4=other 5=depth 6=called -/
def b_Form___init__ : List CS := [(.expr (.call i_need 2 2 0 [.pos 0, .pos 1] [(.and (.isi (.inl "tuple") (.var 1)) (.cmp .le (.bi .len [(.var 1)]) (.glb "MOST_CLAUSES_forms" (.int 400)))), (.cst (.str "no tuple of at most 400 clauses"))] [])), (.asg (.tp [5, 6]) (.call i_walked 1 1 0 [.pos 0] [(.var 1)] [])), (.expr (.call i_need 2 2 0 [.pos 0, .pos 1] [(.call i_may_emit 3 3 0 [.pos 0, .pos 1, .pos 2] [(.var 2), (.var 5), (.var 6)] []), (.cst (.str "no value that can be emitted"))] [])), (.expr (.call i_need 2 2 0 [.pos 0, .pos 1] [(.or (.cmp .is (.var 3) (.cst .non)) (.call i_is_level 2 2 0 [.pos 0, .pos 1] [(.var 3), (.var 5)] [])), (.cst (.str "no level of the form"))] [])), (.expr (.call i_need 2 2 0 [.pos 0, .pos 1] [(.or (.cmp .is (.var 4) (.cst .non)) (.call i_is_word 1 1 0 [.pos 0] [(.var 4)] [])), (.cst (.str "the other is no word"))] [])), (.setF [4] "clauses" (.var 0) (.var 1)), (.setF [4] "value" (.var 0) (.var 2)), (.setF [4] "level" (.var 0) (.ite (.cmp .is (.var 3) (.cst .non)) (.var 5) (.var 3))), (.setF [4] "other" (.var 0) (.var 4)), (.setF [4] "depth" (.var 0) (.var 5))]
/-- Form.parts: slots 0=self -/
def b_Form_parts : List CS := [(.ret (.tup [(.attr [4] "clauses" (.var 0)), (.attr [4] "value" (.var 0)), (.attr [4] "level" (.var 0)), (.attr [4] "other" (.var 0)), (.attr [4] "depth" (.var 0))]))]
/-- Form.normal: slots 0=self -/
def b_Form_normal : List CS := [(.ret (.make 4 i_Form___init__ 5 3 1 [.pos 0, .pos 1, .pos 2, .pos 3, .kw 0] [(.call i_normal_clauses 2 2 0 [.pos 0, .pos 1] [(.attr [4] "clauses" (.var 0)), (.attr [4] "level" (.var 0))] []), (.attr [4] "value" (.var 0)), (.attr [4] "level" (.var 0))] [(.attr [4] "other" (.var 0))]))]
/-- Form.__len__: slots 0=self -/
def b_Form___len__ : List CS := [(.ret (.bi .len [(.attr [4] "clauses" (.var 0))]))]
/-- Form.__eq__: slots 0=self 1=other -/
def b_Form___eq__ : List CS := [(.ret (.and (.isi (.inr 4) (.var 1)) (.cmp .eq (.meth 4 "parts" i_Form_parts 1 0 0 [.pos 0] (.var 0) [] []) (.meth 4 "parts" i_Form_parts 1 0 0 [.pos 0] (.var 1) [] []))))]
/-- Form.__or__: slots 0=self 1=other 2=clauses 3=value 4=level 5=end -/
def b_Form___or__ : List CS := [(.ifS (.not (.isi (.inr 4) (.var 1))) [(.raise 3)] []), (.asg (.tp [2, 3, 4, 5]) (.call i_chained 2 2 0 [.pos 0, .pos 1] [(.meth 4 "parts" i_Form_parts 1 0 0 [.pos 0] (.var 0) [] []), (.meth 4 "parts" i_Form_parts 1 0 0 [.pos 0] (.var 1) [] [])] [])), (.ret (.meth 4 "normal" i_Form_normal 1 0 0 [.pos 0] (.make 4 i_Form___init__ 5 3 1 [.pos 0, .pos 1, .pos 2, .pos 3, .kw 0] [(.var 2), (.var 3), (.var 4)] [(.var 5)]) [] []))]
/-- kinds: slots 0=form 1=normal 2=words 3=filters 4=ends 5=fits 6=clause 7=word 8=does_fit -/
def b_kinds : List CS := [(.asg (.nm 1) (.meth 4 "normal" i_Form_normal 1 0 0 [.pos 0] (.var 0) [] [])), (.asg (.nm 2) (.lc (.idx (.var 6) (.cst (.int 0))) (.nm 6) [6] .seq [(.attr [4] "clauses" (.var 1))] [])), (.asg (.nm 3) (.lc (.var 6) (.nm 6) [6] .seq [(.attr [4] "clauses" (.var 1))] [(.and (.cmp .eq (.idx (.var 6) (.cst (.int 0))) (.cst (.str "if"))) (.cmp .eq (.idx (.var 6) (.cst (.int 2))) (.cst (.int 1))))])), (.asg (.nm 4) (.or (.cmp .eq (.attr [4] "level" (.var 1)) (.cst (.int 0))) (.bi .any [(.lc (.and (.cmp .eq (.idx (.var 6) (.cst (.int 0))) (.cst (.str "if"))) (.cmp .eq (.idx (.var 6) (.cst (.int 2))) (.cst (.int 0)))) (.nm 6) [6] .seq [(.attr [4] "clauses" (.var 1))] [])]))), (.asg (.nm 5) (.lst [(.tup [(.cst (.str "map")), (.and (.cmp .eq (.attr [4] "level" (.var 1)) (.cst (.int 1))) (.cmp .eq (.var 2) (.bin .mul (.lst [(.cst (.str "call"))]) (.bi .len [(.var 2)]))))])])), (.expr (.mt .append (.var 5) [(.tup [(.cst (.str "filter")), (.and (.cmp .eq (.lenO 4 i_Form___len__ 1 [.pos 0] (.var 1)) (.cst (.int 1))) (.and (.cmp .ne (.var 3) (.lst [])) (.and (.cmp .eq (.attr [4] "value" (.var 1)) (.cst (.int 1))) (.cmp .eq (.attr [4] "level" (.var 1)) (.cst (.int 1))))))])])), (.expr (.mt .append (.var 5) [(.tup [(.cst (.str "flat")), (.cmp .inF (.cst (.str "for")) (.var 2))])])), (.expr (.mt .append (.var 5) [(.tup [(.cst (.str "drops")), (.cmp .inF (.cst (.str "from")) (.var 2))])])), (.expr (.mt .append (.var 5) [(.tup [(.cst (.str "ends")), (.var 4)])])), (.expr (.mt .append (.var 5) [(.tup [(.cst (.str "search")), (.cmp .eq (.attr [4] "level" (.var 1)) (.cst (.int 0)))])])), (.ret (.bi .tuple [(.lc (.var 7) (.tp [7, 8]) [7, 8] .seq [(.var 5)] [(.var 8)])]))]
/-- _law_begin: slots 0=_law_script 1=_law_cells 2=_law_cell -/
def b__law_begin : List CS := [(.asg (.nm 1) (.lc (.bi .abs [(.var 2)]) (.nm 2) [2] .seq [(.var 0)] [])), (.ret (.dic [(.cst (.str "large")), (.cst (.str "cells")), (.cst (.str "rest")), (.cst (.str "turn"))] [(.lc (.bin .sub (.var 2) (.bin .pow (.cst (.int 10)) (.cst (.int 18)))) (.nm 2) [2] .seq [(.var 1)] [(.cmp .ge (.var 2) (.bin .pow (.cst (.int 10)) (.cst (.int 18))))]), (.var 1), (.cst (.int 0)), (.cst (.int 0))]))]
/-- _law_draw: slots 0=_law_state 1=_law_size 2=_law_turn 3=_law_cell 4=_law_mixed 5=_law_found -/
def b__law_draw : List CS := [(.whileS (.and (.cmp .eq (.idx (.var 0) (.cst (.str "rest"))) (.cst (.int 0))) (.cmp .ne (.idx (.var 0) (.cst (.str "large"))) (.lst []))) [(.setI (.var 0) (.cst (.str "rest")) (.mt .popAt (.idx (.var 0) (.cst (.str "large"))) [(.cst (.int 0))]))]), (.ifS (.cmp .gt (.idx (.var 0) (.cst (.str "rest"))) (.cst (.int 0))) [(.asg (.nm 5) (.bin .mod (.bi .int [(.idx (.var 0) (.cst (.str "rest")))]) (.var 1))), (.setI (.var 0) (.cst (.str "rest")) (.bin .fdiv (.idx (.var 0) (.cst (.str "rest"))) (.var 1))), (.ret (.var 5))] []), (.asg (.nm 2) (.bin .add (.idx (.var 0) (.cst (.str "turn"))) (.cst (.int 1)))), (.setI (.var 0) (.cst (.str "turn")) (.var 2)), (.asg (.nm 3) (.ite (.cmp .ne (.idx (.var 0) (.cst (.str "cells"))) (.lst [])) (.idx (.idx (.var 0) (.cst (.str "cells"))) (.bin .mod (.bi .int [(.var 2)]) (.bi .len [(.idx (.var 0) (.cst (.str "cells")))]))) (.cst (.int 0)))), (.asg (.nm 4) (.bin .mod (.bi .int [(.bin .pow (.bin .add (.bin .add (.bin .mod (.bi .int [(.var 3)]) (.cst (.int 2147483629))) (.bin .mul (.cst (.int 69621)) (.var 2))) (.cst (.int 12345))) (.cst (.int 3)))]) (.cst (.int 2147483647)))), (.ret (.bin .mod (.bi .int [(.bin .fdiv (.bin .mod (.bi .int [(.bin .pow (.bin .add (.var 4) (.bin .mul (.cst (.int 104729)) (.var 2))) (.cst (.int 5)))]) (.cst (.int 2147483587))) (.cst (.int 13)))]) (.var 1)))]
/-- _law_pick: slots 0=_law_state 1=_law_some -/
def b__law_pick : List CS := [(.ret (.idx (.var 1) (.call i__law_draw 2 2 0 [.pos 0, .pos 1] [(.var 0), (.bi .len [(.var 1)])] [])))]
/-- _law_name: slots 0=_law_state 1=_law_way 2=_law_letters 3=_law_rest 4=_law_k -/
def b__law_name : List CS := [(.asg (.nm 1) (.call i__law_draw 2 2 0 [.pos 0, .pos 1] [(.var 0), (.cst (.int 6))] [])), (.ifS (.cmp .lt (.var 1) (.cst (.int 3))) [(.ret (.call i__law_pick 2 2 0 [.pos 0, .pos 1] [(.var 0), (.lst [(.cst (.str "p")), (.cst (.str "q")), (.cst (.str "f")), (.cst (.str "g"))])] []))] []), (.ifS (.cmp .eq (.var 1) (.cst (.int 3))) [(.ret (.call i__law_pick 2 2 0 [.pos 0, .pos 1] [(.var 0), (.lst [(.cst (.str "any")), (.cst (.str "all")), (.cst (.str "not")), (.cst (.str "and")), (.cst (.str "or")), (.cst (.str "then")), (.cst (.str "else")), (.cst (.str "source")), (.cst (.str "x1")), (.cst (.str "emit")), (.cst (.str "if")), (.cst (.str "for"))])] []))] []), (.asg (.nm 2) (.cst (.str "abcdefghijklmnopqrstuvwxyz"))), (.asg (.nm 3) (.lc (.call i__law_pick 2 2 0 [.pos 0, .pos 1] [(.var 0), (.bin .add (.var 2) (.cst (.str "0123456789")))] []) (.nm 4) [4] .rg1 [(.call i__law_draw 2 2 0 [.pos 0, .pos 1] [(.var 0), (.cst (.int 8))] [])] [])), (.ret (.bin .add (.call i__law_pick 2 2 0 [.pos 0, .pos 1] [(.var 0), (.var 2)] []) (.mt .join (.cst (.str "")) [(.var 3)])))]
/-- _law_height: slots 0=_law_value_here 1=_law_each -/
def b__law_height : List CS := [(.ifS (.isi (.inl "int") (.var 0)) [(.ret (.cst (.int 0)))] []), (.ret (.bin .add (.cst (.int 1)) (.bi .maxL [(.lc (.call i__law_height 1 1 0 [.pos 0] [(.var 1)] []) (.nm 1) [1] .seq [(.slice (.var 0) (some (.cst (.int 1))) none)] [])])))]
/-- _law_value: slots 0=_law_state 1=_law_level 2=_law_called -/
def b__law_value : List CS := [(.ifS (.and (.cmp .ne (.var 2) (.lst [])) (.cmp .eq (.call i__law_draw 2 2 0 [.pos 0, .pos 1] [(.var 0), (.cst (.int 2))] []) (.cst (.int 0)))) [(.ret (.call i__law_pick 2 2 0 [.pos 0, .pos 1] [(.var 0), (.lst [(.idx (.var 2) (.neg (.cst (.int 1)))), (.idx (.var 2) (.neg (.cst (.int 1)))), (.call i__law_pick 2 2 0 [.pos 0, .pos 1] [(.var 0), (.var 2)] [])])] []))] []), (.ret (.call i__law_pick 2 2 0 [.pos 0, .pos 1] [(.var 0), (.lst [(.var 1), (.var 1), (.bin .add (.cst (.int 1)) (.call i__law_draw 2 2 0 [.pos 0, .pos 1] [(.var 0), (.var 1)] []))])] []))]
/-- _law_term: slots 0=_law_state 1=_law_names 2=_law_level 3=_law_called 4=_law_low 5=_law_values 6=_law_each 7=_law_k -/
def b__law_term : List CS := [(.asg (.nm 4) (.lc (.var 6) (.nm 6) [6] .seq [(.var 3)] [(.cmp .lt (.call i__law_height 1 1 0 [.pos 0] [(.var 6)] []) (.cst (.int 4)))])), (.asg (.nm 5) (.lc (.call i__law_value 3 3 0 [.pos 0, .pos 1, .pos 2] [(.var 0), (.var 2), (.var 4)] []) (.nm 7) [7] .rg1 [(.bin .add (.cst (.int 1)) (.call i__law_draw 2 2 0 [.pos 0, .pos 1] [(.var 0), (.cst (.int 2))] []))] [])), (.ret (.bin .add (.tup [(.call i__law_pick 2 2 0 [.pos 0, .pos 1] [(.var 0), (.var 1)] [])]) (.bi .tuple [(.var 5)])))]
/-- _law_condition: slots 0=_law_state 1=_law_names 2=_law_level 3=_law_called 4=_law_room 5=_law_way 6=_law_many 7=_law_parts_here 8=_law_part 9=_law_k -/
def b__law_condition : List CS := [(.asg (.nm 5) (.ite (.cmp .gt (.var 4) (.cst (.int 1))) (.call i__law_draw 2 2 0 [.pos 0, .pos 1] [(.var 0), (.cst (.int 7))] []) (.cst (.int 0)))), (.ifS (.and (.cmp .gt (.var 5) (.cst (.int 4))) (.cmp .lt (.var 2) (.cst (.int 3)))) [(.asg (.nm 8) (.call i__law_condition 5 5 0 [.pos 0, .pos 1, .pos 2, .pos 3, .pos 4] [(.var 0), (.var 1), (.bin .add (.var 2) (.cst (.int 1))), (.var 3), (.bin .sub (.var 4) (.cst (.int 1)))] [])), (.ret (.tup [(.call i__law_pick 2 2 0 [.pos 0, .pos 1] [(.var 0), (.lst [(.cst (.str "any")), (.cst (.str "all"))])] []), (.call i__law_term 4 4 0 [.pos 0, .pos 1, .pos 2, .pos 3] [(.var 0), (.var 1), (.var 2), (.var 3)] []), (.var 8)]))] []), (.ifS (.or (.cmp .lt (.var 5) (.cst (.int 2))) (.cmp .gt (.var 5) (.cst (.int 4)))) [(.ret (.tup [(.cst (.str "ask")), (.call i__law_term 4 4 0 [.pos 0, .pos 1, .pos 2, .pos 3] [(.var 0), (.var 1), (.var 2), (.var 3)] []), (.cmp .eq (.call i__law_draw 2 2 0 [.pos 0, .pos 1] [(.var 0), (.cst (.int 2))] []) (.cst (.int 0)))]))] []), (.asg (.nm 6) (.bin .add (.cst (.int 2)) (.call i__law_draw 2 2 0 [.pos 0, .pos 1] [(.var 0), (.bi .min2 [(.cst (.int 2)), (.bin .sub (.var 4) (.cst (.int 1)))])] []))), (.asg (.nm 7) (.lc (.call i__law_condition 5 5 0 [.pos 0, .pos 1, .pos 2, .pos 3, .pos 4] [(.var 0), (.var 1), (.var 2), (.var 3), (.bin .fdiv (.var 4) (.var 6))] []) (.nm 9) [9] .rg1 [(.var 6)] [])), (.ret (.tup [(.call i__law_pick 2 2 0 [.pos 0, .pos 1] [(.var 0), (.lst [(.cst (.str "and")), (.cst (.str "or"))])] []), (.bi .tuple [(.var 7)])]))]
/-- _law_parts: slots 0=_law_form -/
def b__law_parts : List CS := [(.ret (.tup [(.attr [4] "clauses" (.var 0)), (.attr [4] "value" (.var 0)), (.attr [4] "level" (.var 0)), (.attr [4] "other" (.var 0)), (.attr [4] "depth" (.var 0))]))]
/-- _law_flat: slots 0=_law_condition_here 1=_law_word 2=_law_found 3=_law_one 4=_law_part -/
def b__law_flat : List CS := [(.asg (.nm 1) (.idx (.var 0) (.cst (.int 0)))), (.ifS (.cmp .eq (.var 1) (.cst (.str "ask"))) [(.ret (.var 0))] []), (.ifS (.cmp .inF (.var 1) (.tup [(.cst (.str "any")), (.cst (.str "all"))])) [(.ret (.tup [(.var 1), (.idx (.var 0) (.cst (.int 1))), (.call i__law_flat 1 1 0 [.pos 0] [(.idx (.var 0) (.cst (.int 2)))] [])]))] []), (.asg (.nm 2) (.lst [])), (.forS (.nm 3) .seq [(.idx (.var 0) (.cst (.int 1)))] [(.asg (.nm 4) (.call i__law_flat 1 1 0 [.pos 0] [(.var 3)] [])), (.asg (.nm 2) (.bin .add (.var 2) (.ite (.cmp .eq (.idx (.var 4) (.cst (.int 0))) (.var 1)) (.bi .list [(.idx (.var 4) (.cst (.int 1)))]) (.lst [(.var 4)]))))]), (.ret (.tup [(.var 1), (.bi .tuple [(.var 2)])]))]
/-- _law_merged: slots 0=_law_clauses 1=_law_found 2=_law_word 3=_law_condition_here 4=_law_level -/
def b__law_merged : List CS := [(.asg (.nm 1) (.lst [])), (.forS (.tp [2, 3, 4]) .seq [(.var 0)] [(.ifS (.and (.cmp .ne (.var 1) (.lst [])) (.cmp .eq (.idx (.idx (.var 1) (.neg (.cst (.int 1)))) (.cst (.int 2))) (.var 4))) [(.asg (.nm 3) (.call i__law_flat 1 1 0 [.pos 0] [(.tup [(.cst (.str "and")), (.tup [(.idx (.mt .pop (.var 1) []) (.cst (.int 1))), (.var 3)])])] []))] []), (.expr (.mt .append (.var 1) [(.tup [(.var 2), (.call i__law_flat 1 1 0 [.pos 0] [(.var 3)] []), (.var 4)])]))]), (.ret (.bi .tuple [(.var 1)]))]
/-- law: slots 0=_law_script 1=_law_state 2=_law_turn 3=_law_k 4=_law_forms 5=_law_due 6=_law_words 7=_law_names 8=_law_clauses 9=_law_front 10=_law_back 11=_law_clause -/
def b_law : List CS := [(.asg (.nm 1) (.call i__law_begin 1 1 0 [.pos 0] [(.var 0)] [])), (.forS (.nm 2) .rg1 [(.cst (.int 4))] [(.par 7 8 (.lc (.call i__law_name 1 1 0 [.pos 0] [(.var 1)] []) (.nm 3) [3] .rg1 [(.cst (.int 3))] []) (.lst [])), (.forS (.nm 3) .rg1 [(.bin .add (.cst (.int 2)) (.call i__law_draw 2 2 0 [.pos 0, .pos 1] [(.var 1), (.cst (.int 4))] []))] [(.expr (.mt .append (.var 8) [(.tup [(.cst (.str "if")), (.call i__law_condition 5 5 0 [.pos 0, .pos 1, .pos 2, .pos 3, .pos 4] [(.var 1), (.var 7), (.cst (.int 1)), (.lst []), (.cst (.int 4))] []), (.call i__law_pick 2 2 0 [.pos 0, .pos 1] [(.var 1), (.lst [(.cst (.int 1)), (.cst (.int 1)), (.cst (.int 0))])] [])])]))]), (.asg (.nm 4) (.lc (.make 4 i_Form___init__ 5 2 0 [.pos 0, .pos 1, .pos 2, .dfl .non, .dfl .non] [(.tup [(.var 11)]), (.cst (.int 1))] []) (.nm 11) [11] .seq [(.var 8)] [])), (.par 9 10 (.idx (.var 4) (.cst (.int 0))) (.idx (.var 4) (.neg (.cst (.int 1))))), (.forS (.nm 3) .rg2 [(.cst (.int 1)), (.bi .len [(.var 4)])] [(.par 9 10 (.orO 4 i_Form___or__ 2 [.pos 0, .pos 1] (.var 9) (.idx (.var 4) (.var 3))) (.orO 4 i_Form___or__ 2 [.pos 0, .pos 1] (.idx (.var 4) (.bin .sub (.neg (.cst (.int 1))) (.var 3))) (.var 10)))]), (.asg (.nm 5) (.call i__law_merged 1 1 0 [.pos 0] [(.var 8)] [])), (.ifS (.cmp .ne (.bi .repr [(.lst [(.call i__law_parts 1 1 0 [.pos 0] [(.var 9)] []), (.call i__law_parts 1 1 0 [.pos 0] [(.var 10)] [])])]) (.bi .repr [(.bin .mul (.lst [(.tup [(.var 5), (.cst (.int 1)), (.cst (.int 1)), (.cst .non), (.cst (.int 1))])]) (.cst (.int 2)))])) [(.ret (.cst (.bl false)))] []), (.asg (.nm 6) (.ite (.cmp .eq (.lc (.idx (.var 11) (.cst (.int 2))) (.nm 11) [11] .seq [(.var 5)] []) (.lst [(.cst (.int 1))])) (.tup [(.cst (.str "filter"))]) (.tup [(.cst (.str "ends"))]))), (.ifS (.or (.cmp .ne (.call i_kinds 1 1 0 [.pos 0] [(.var 9)] []) (.var 6)) (.eqO 4 i_Form___eq__ 2 [.pos 0, .pos 1] true (.var 9) (.var 10))) [(.ret (.cst (.bl false)))] [])]), (.ret (.cst (.bl true)))]
def prog : Prog3 := [(0, ⟨1, 1, b_is_number⟩), (1, ⟨1, 2, b_is_name⟩), (2, ⟨1, 2, b_is_word⟩), (3, ⟨2, 4, b_measured⟩), (4, ⟨1, 1, b_is_value⟩), (5, ⟨1, 1, b_is_term⟩), (6, ⟨1, 2, b_sizes_of⟩), (7, ⟨1, 1, b_highest⟩), (8, ⟨3, 3, b_may_use⟩), (9, ⟨3, 4, b_may_call⟩), (10, ⟨1, 1, b_is_shaped⟩), (11, ⟨3, 10, b_is_condition⟩), (12, ⟨1, 1, b_parts_of⟩), (13, ⟨1, 4, b_asks⟩), (14, ⟨2, 4, b_flat⟩), (15, ⟨1, 1, b_contrary⟩), (16, ⟨2, 4, b_settled⟩), (17, ⟨3, 4, b_value_in⟩), (18, ⟨3, 3, b_emitted_in⟩), (19, ⟨3, 5, b_condition_in⟩), (20, ⟨3, 3, b_level_in⟩), (21, ⟨4, 5, b_clause_in⟩), (22, ⟨1, 3, b_rise⟩), (23, ⟨1, 2, b_tallness⟩), (24, ⟨1, 3, b_tallest_in⟩), (25, ⟨1, 2, b_height_of⟩), (26, ⟨2, 5, b_top_of⟩), (27, ⟨1, 2, b_asks_in⟩), (28, ⟨2, 2, b_need_⟩), (29, ⟨2, 10, b_need_joinable⟩), (30, ⟨2, 9, b_chained⟩), (31, ⟨1, 4, b_standings⟩), (32, ⟨2, 8, b_once_settled⟩), (33, ⟨2, 4, b_normal_clauses⟩), (34, ⟨3, 3, b_may_emit⟩), (35, ⟨2, 2, b_is_level⟩), (36, ⟨3, 3, b_is_clause⟩), (37, ⟨2, 2, b_need⟩), (38, ⟨1, 5, b_walked⟩), (39, ⟨5, 7, b_Form___init__⟩), (40, ⟨1, 1, b_Form_parts⟩), (41, ⟨1, 1, b_Form_normal⟩), (42, ⟨1, 1, b_Form___len__⟩), (43, ⟨2, 2, b_Form___eq__⟩), (44, ⟨2, 6, b_Form___or__⟩), (45, ⟨1, 9, b_kinds⟩), (46, ⟨1, 3, b__law_begin⟩), (47, ⟨2, 6, b__law_draw⟩), (48, ⟨2, 2, b__law_pick⟩), (49, ⟨1, 5, b__law_name⟩), (50, ⟨1, 2, b__law_height⟩), (51, ⟨3, 3, b__law_value⟩), (52, ⟨4, 8, b__law_term⟩), (53, ⟨5, 10, b__law_condition⟩), (54, ⟨1, 1, b__law_parts⟩), (55, ⟨1, 5, b__law_flat⟩), (56, ⟨1, 5, b__law_merged⟩), (57, ⟨1, 12, b_law⟩)]
abbrev Sh (f n : Nat) (ks : List Str) (np : Nat) (g : List Src) : (Nat × Nat × List Str) × (Nat × List Src) := ((f, n, ks), (np, g))
def L : TabL where
  fn := [(("is_number" : Str), 0), (("is_name" : Str), 1), (("is_word" : Str), 2), (("measured" : Str), 3), (("is_value" : Str), 4), (("is_term" : Str), 5), (("sizes_of" : Str), 6), (("highest" : Str), 7), (("may_use" : Str), 8), (("may_call" : Str), 9), (("is_shaped" : Str), 10), (("is_condition" : Str), 11), (("parts_of" : Str), 12), (("asks" : Str), 13), (("flat" : Str), 14), (("contrary" : Str), 15), (("settled" : Str), 16), (("value_in" : Str), 17), (("emitted_in" : Str), 18), (("condition_in" : Str), 19), (("level_in" : Str), 20), (("clause_in" : Str), 21), (("rise" : Str), 22), (("tallness" : Str), 23), (("tallest_in" : Str), 24), (("height_of" : Str), 25), (("top_of" : Str), 26), (("asks_in" : Str), 27), (("need_joining" : Str), 28), (("need_joinable" : Str), 29), (("chained" : Str), 30), (("standings" : Str), 31), (("once_settled" : Str), 32), (("normal_clauses" : Str), 33), (("may_emit" : Str), 34), (("is_level" : Str), 35), (("is_clause" : Str), 36), (("need_forms" : Str), 37), (("walked" : Str), 38), (("kinds" : Str), 45), (("_law_begin" : Str), 46), (("_law_draw" : Str), 47), (("_law_pick" : Str), 48), (("_law_name" : Str), 49), (("_law_height" : Str), 50), (("_law_value" : Str), 51), (("_law_term" : Str), 52), (("_law_condition" : Str), 53), (("_law_parts" : Str), 54), (("_law_flat" : Str), 55), (("_law_merged" : Str), 56)]
  cls := [("NoValue", 1), ("NoForm", 2), ("NoFusing", 3), ("Form", 4)]
  glb := [("CAPITALS", (.str "ABCDEFGHIJKLMNOPQRSTUVWXYZ")), ("DEEPEST", (.int 100)), ("GREATEST_HEIGHT", (.int 4)), ("HIGHEST_LEVEL_conditions", (.int 3)), ("HIGHEST_LEVEL_joining", (.int 3)), ("LETTERS", (.str "abcdefghijklmnopqrstuvwxyz")), ("MOST_ASKS_conditions", (.int 400)), ("MOST_ASKS_joining", (.int 400)), ("MOST_CLAUSES_forms", (.int 400)), ("MOST_CLAUSES_joining", (.int 400)), ("MOST_HEIGHT", (.int 4)), ("MOST_LEVEL", (.int 3)), ("MOST_SIGNS", (.int 8)), ("SIGNS", (.str "abcdefghijklmnopqrstuvwxyz0123456789"))]
  blt := ["abs", "all", "any", "bool", "int", "isinstance", "len", "list", "max", "min", "range", "repr", "str", "sum", "tuple", "zip"]
  shape := [Sh 0 1 [] 1 [.pos 0], Sh 1 1 [] 1 [.pos 0], Sh 2 1 [] 1 [.pos 0], Sh 3 2 [] 2 [.pos 0, .pos 1], Sh 4 1 [] 1 [.pos 0], Sh 5 1 [] 1 [.pos 0], Sh 6 1 [] 1 [.pos 0], Sh 7 1 [] 1 [.pos 0], Sh 8 3 [] 3 [.pos 0, .pos 1, .pos 2], Sh 9 3 [] 3 [.pos 0, .pos 1, .pos 2], Sh 10 1 [] 1 [.pos 0], Sh 11 3 [] 3 [.pos 0, .pos 1, .pos 2], Sh 12 1 [] 1 [.pos 0], Sh 13 1 [] 1 [.pos 0], Sh 14 2 [] 2 [.pos 0, .pos 1], Sh 15 1 [] 1 [.pos 0], Sh 16 2 [] 2 [.pos 0, .pos 1], Sh 17 3 [] 3 [.pos 0, .pos 1, .pos 2], Sh 18 3 [] 3 [.pos 0, .pos 1, .pos 2], Sh 19 3 [] 3 [.pos 0, .pos 1, .pos 2], Sh 20 3 [] 3 [.pos 0, .pos 1, .pos 2], Sh 21 4 [] 4 [.pos 0, .pos 1, .pos 2, .pos 3], Sh 22 1 [] 1 [.pos 0], Sh 23 1 [] 1 [.pos 0], Sh 24 1 [] 1 [.pos 0], Sh 25 1 [] 1 [.pos 0], Sh 26 2 [] 2 [.pos 0, .pos 1], Sh 27 1 [] 1 [.pos 0], Sh 28 2 [] 2 [.pos 0, .pos 1], Sh 29 2 [] 2 [.pos 0, .pos 1], Sh 30 2 [] 2 [.pos 0, .pos 1], Sh 31 1 [] 1 [.pos 0], Sh 32 2 [] 2 [.pos 0, .pos 1], Sh 33 2 [] 2 [.pos 0, .pos 1], Sh 34 3 [] 3 [.pos 0, .pos 1, .pos 2], Sh 35 2 [] 2 [.pos 0, .pos 1], Sh 36 3 [] 3 [.pos 0, .pos 1, .pos 2], Sh 37 2 [] 2 [.pos 0, .pos 1], Sh 38 1 [] 1 [.pos 0], Sh 39 3 [] 5 [.pos 0, .pos 1, .pos 2, .dfl .non, .dfl .non], Sh 39 4 ["other"] 5 [.pos 0, .pos 1, .pos 2, .pos 3, .kw 0], Sh 40 1 [] 1 [.pos 0], Sh 41 1 [] 1 [.pos 0], Sh 42 1 [] 1 [.pos 0], Sh 43 2 [] 2 [.pos 0, .pos 1], Sh 44 2 [] 2 [.pos 0, .pos 1], Sh 45 1 [] 1 [.pos 0], Sh 46 1 [] 1 [.pos 0], Sh 47 2 [] 2 [.pos 0, .pos 1], Sh 48 2 [] 2 [.pos 0, .pos 1], Sh 49 1 [] 1 [.pos 0], Sh 50 1 [] 1 [.pos 0], Sh 51 3 [] 3 [.pos 0, .pos 1, .pos 2], Sh 52 4 [] 4 [.pos 0, .pos 1, .pos 2, .pos 3], Sh 53 5 [] 5 [.pos 0, .pos 1, .pos 2, .pos 3, .pos 4], Sh 54 1 [] 1 [.pos 0], Sh 55 1 [] 1 [.pos 0], Sh 56 1 [] 1 [.pos 0]]
  init := [(4, 39)]
  own := [(4, 43)]
  ownL := [(4, 42)]
  ownB := [(4, 44)]
  mth := [((4, "normal"), 41), ((4, "parts"), 40)]
  attr := [(4, "clauses"), (4, "depth"), (4, "level"), (4, "other"), (4, "value")]
  exc := [1, 2, 3]
  tch := []
abbrev kitOwn : Kit := [(.inl "NoneType", .inr 4, false), (.inl "bool", .inr 4, false), (.inl "int", .inr 4, false), (.inl "str", .inr 4, false), (.inl "tuple", .inr 4, false), (.inl "list", .inr 4, false), (.inl "dict", .inr 4, false), (.inr 4, .inr 4, true), (.inr 4, .inl "bool", false), (.inr 4, .inl "int", false), (.inr 4, .inl "str", false), (.inr 4, .inl "tuple", false), (.inr 4, .inl "list", false)]
abbrev kit : Kit := kitOwn ++ kitPlain
abbrev s0 : Stmt := top 12
def d0 : DefT := ⟨0, "is_number", "is_number", s0, ["thing"], ["thing"], 60⟩
theorem ok0 : d0.ok L.tab prog = true := by decide +kernel
abbrev s1 : Stmt := top 13
def d1 : DefT := ⟨1, "is_name", "is_name", s1, ["thing", "sign"], ["thing"], 60⟩
theorem ok1 : d1.ok L.tab prog = true := by decide +kernel
abbrev s2 : Stmt := top 14
def d2 : DefT := ⟨2, "is_word", "is_word", s2, ["thing", "sign"], ["thing"], 60⟩
theorem ok2 : d2.ok L.tab prog = true := by decide +kernel
abbrev s3 : Stmt := top 15
def d3 : DefT := ⟨3, "measured", "measured", s3, ["thing", "room", "parts", "part"], ["thing", "room"], 60⟩
theorem ok3 : d3.ok L.tab prog = true := by decide +kernel
abbrev s4 : Stmt := top 16
def d4 : DefT := ⟨4, "is_value", "is_value", s4, ["thing"], ["thing"], 60⟩
theorem ok4 : d4.ok L.tab prog = true := by decide +kernel
abbrev s5 : Stmt := top 17
def d5 : DefT := ⟨5, "is_term", "is_term", s5, ["thing"], ["thing"], 60⟩
theorem ok5 : d5.ok L.tab prog = true := by decide +kernel
abbrev s6 : Stmt := top 18
def d6 : DefT := ⟨6, "sizes_of", "sizes_of", s6, ["value", "found"], ["value"], 60⟩
theorem ok6 : d6.ok L.tab prog = true := by decide +kernel
abbrev s7 : Stmt := top 19
def d7 : DefT := ⟨7, "highest", "highest", s7, ["value"], ["value"], 60⟩
theorem ok7 : d7.ok L.tab prog = true := by decide +kernel
abbrev s8 : Stmt := top 24
def d8 : DefT := ⟨8, "may_use", "may_use", s8, ["value", "level", "called"], ["value", "level", "called"], 60⟩
theorem ok8 : d8.ok L.tab prog = true := by decide +kernel
abbrev s9 : Stmt := top 25
def d9 : DefT := ⟨9, "may_call", "may_call", s9, ["term", "level", "called", "value"], ["term", "level", "called"], 60⟩
theorem ok9 : d9.ok L.tab prog = true := by decide +kernel
abbrev s10 : Stmt := top 26
def d10 : DefT := ⟨10, "is_shaped", "is_shaped", s10, ["thing"], ["thing"], 60⟩
theorem ok10 : d10.ok L.tab prog = true := by decide +kernel
abbrev s11 : Stmt := top 27
def d11 : DefT := ⟨11, "is_condition", "is_condition", s11, ["thing", "level", "called", "line", "count", "known", "part", "at", "nest", "one"], ["thing", "level", "called"], 60⟩
theorem ok11 : d11.ok L.tab prog = true := by decide +kernel
abbrev s12 : Stmt := top 28
def d12 : DefT := ⟨12, "parts_of", "parts_of", s12, ["condition"], ["condition"], 60⟩
theorem ok12 : d12.ok L.tab prog = true := by decide +kernel
abbrev s13 : Stmt := top 29
def d13 : DefT := ⟨13, "asks", "asks", s13, ["condition", "line", "count", "part"], ["condition"], 60⟩
theorem ok13 : d13.ok L.tab prog = true := by decide +kernel
abbrev s14 : Stmt := top 30
def d14 : DefT := ⟨14, "flat", "flat", s14, ["word", "parts", "found", "part"], ["word", "parts"], 60⟩
theorem ok14 : d14.ok L.tab prog = true := by decide +kernel
abbrev s15 : Stmt := top 31
def d15 : DefT := ⟨15, "contrary", "contrary", s15, ["word"], ["word"], 60⟩
theorem ok15 : d15.ok L.tab prog = true := by decide +kernel
abbrev s16 : Stmt := top 32
def d16 : DefT := ⟨16, "settled", "settled", s16, ["condition", "truth", "word", "part"], ["condition", "truth"], 60⟩
theorem ok16 : d16.ok L.tab prog = true := by decide +kernel
abbrev s17 : Stmt := top 38
def d17 : DefT := ⟨17, "value_in", "value_in", s17, ["value", "item", "depth", "part"], ["value", "item", "depth"], 60⟩
theorem ok17 : d17.ok L.tab prog = true := by decide +kernel
abbrev s18 : Stmt := top 39
def d18 : DefT := ⟨18, "emitted_in", "emitted_in", s18, ["what", "item", "depth"], ["what", "item", "depth"], 60⟩
theorem ok18 : d18.ok L.tab prog = true := by decide +kernel
abbrev s19 : Stmt := top 40
def d19 : DefT := ⟨19, "condition_in", "condition_in", s19, ["condition", "item", "depth", "word", "part"], ["condition", "item", "depth"], 60⟩
theorem ok19 : d19.ok L.tab prog = true := by decide +kernel
abbrev s20 : Stmt := top 41
def d20 : DefT := ⟨20, "level_in", "level_in", s20, ["level", "first", "depth"], ["level", "first", "depth"], 60⟩
theorem ok20 : d20.ok L.tab prog = true := by decide +kernel
abbrev s21 : Stmt := top 42
def d21 : DefT := ⟨21, "clause_in", "clause_in", s21, ["clause", "item", "first", "depth", "word"], ["clause", "item", "first", "depth"], 60⟩
theorem ok21 : d21.ok L.tab prog = true := by decide +kernel
abbrev s22 : Stmt := top 43
def d22 : DefT := ⟨22, "rise", "rise", s22, ["condition", "word", "part"], ["condition"], 60⟩
theorem ok22 : d22.ok L.tab prog = true := by decide +kernel
abbrev s23 : Stmt := top 44
def d23 : DefT := ⟨23, "tallness", "tallness", s23, ["value", "part"], ["value"], 60⟩
theorem ok23 : d23.ok L.tab prog = true := by decide +kernel
abbrev s24 : Stmt := top 45
def d24 : DefT := ⟨24, "tallest_in", "tallest_in", s24, ["condition", "word", "part"], ["condition"], 60⟩
theorem ok24 : d24.ok L.tab prog = true := by decide +kernel
abbrev s25 : Stmt := top 46
def d25 : DefT := ⟨25, "height_of", "height_of", s25, ["clause", "word"], ["clause"], 60⟩
theorem ok25 : d25.ok L.tab prog = true := by decide +kernel
abbrev s26 : Stmt := top 47
def d26 : DefT := ⟨26, "top_of", "top_of", s26, ["clauses", "depth", "clause", "level", "top"], ["clauses", "depth"], 60⟩
theorem ok26 : d26.ok L.tab prog = true := by decide +kernel
abbrev s27 : Stmt := top 48
def d27 : DefT := ⟨27, "asks_in", "asks_in", s27, ["clauses", "clause"], ["clauses"], 60⟩
theorem ok27 : d27.ok L.tab prog = true := by decide +kernel
abbrev s28 : Stmt := top 49
def d28 : DefT := ⟨28, "need", "need", s28, ["good", "why"], ["good", "why"], 60⟩
theorem ok28 : d28.ok L.tab prog = true := by decide +kernel
abbrev s29 : Stmt := top 51
def d29 : DefT := ⟨29, "need_joinable", "need_joinable", s29, ["one", "other", "words", "ends", "clauses", "value", "level", "end", "depth", "clause"], ["one", "other"], 60⟩
theorem ok29 : d29.ok L.tab prog = true := by decide +kernel
abbrev s30 : Stmt := top 52
def d30 : DefT := ⟨30, "chained", "chained", s30, ["one", "other", "clauses", "value", "heights", "item", "first", "depth", "clause"], ["one", "other"], 60⟩
theorem ok30 : d30.ok L.tab prog = true := by decide +kernel
abbrev s31 : Stmt := top 54
def d31 : DefT := ⟨31, "standings", "standings", s31, ["clauses", "found", "level", "clause"], ["clauses"], 60⟩
theorem ok31 : d31.ok L.tab prog = true := by decide +kernel
abbrev s32 : Stmt := top 55
def d32 : DefT := ⟨32, "once_settled", "once_settled", s32, ["clauses", "level", "stands", "found", "lowest", "clause", "at", "condition"], ["clauses", "level"], 60⟩
theorem ok32 : d32.ok L.tab prog = true := by decide +kernel
abbrev s33 : Stmt := top 56
def d33 : DefT := ⟨33, "normal_clauses", "normal_clauses", s33, ["clauses", "level", "found", "clause"], ["clauses", "level"], 60⟩
theorem ok33 : d33.ok L.tab prog = true := by decide +kernel
abbrev s34 : Stmt := top 59
def d34 : DefT := ⟨34, "may_emit", "may_emit", s34, ["what", "level", "called"], ["what", "level", "called"], 60⟩
theorem ok34 : d34.ok L.tab prog = true := by decide +kernel
abbrev s35 : Stmt := top 60
def d35 : DefT := ⟨35, "is_level", "is_level", s35, ["thing", "highest_one"], ["thing", "highest_one"], 60⟩
theorem ok35 : d35.ok L.tab prog = true := by decide +kernel
abbrev s36 : Stmt := top 61
def d36 : DefT := ⟨36, "is_clause", "is_clause", s36, ["thing", "level", "called"], ["thing", "level", "called"], 60⟩
theorem ok36 : d36.ok L.tab prog = true := by decide +kernel
abbrev s37 : Stmt := top 62
def d37 : DefT := ⟨37, "need", "need", s37, ["good", "why"], ["good", "why"], 60⟩
theorem ok37 : d37.ok L.tab prog = true := by decide +kernel
abbrev s38 : Stmt := top 64
def d38 : DefT := ⟨38, "walked", "walked", s38, ["clauses", "called", "level", "count", "clause"], ["clauses"], 60⟩
theorem ok38 : d38.ok L.tab prog = true := by decide +kernel
abbrev s39 : Stmt := inClass (top 65) 0
def d39 : DefT := ⟨39, "__init__", "Form.__init__", s39, ["self", "clauses", "value", "level", "other", "depth", "called"], ["self", "clauses", "value", "level", "other"], 60⟩
theorem ok39 : d39.ok L.tab prog = true := by decide +kernel
abbrev s40 : Stmt := inClass (top 65) 1
def d40 : DefT := ⟨40, "parts", "Form.parts", s40, ["self"], ["self"], 60⟩
theorem ok40 : d40.ok L.tab prog = true := by decide +kernel
abbrev s41 : Stmt := inClass (top 65) 2
def d41 : DefT := ⟨41, "normal", "Form.normal", s41, ["self"], ["self"], 60⟩
theorem ok41 : d41.ok L.tab prog = true := by decide +kernel
abbrev s42 : Stmt := inClass (top 65) 3
def d42 : DefT := ⟨42, "__len__", "Form.__len__", s42, ["self"], ["self"], 60⟩
theorem ok42 : d42.ok L.tab prog = true := by decide +kernel
abbrev s43 : Stmt := inClass (top 65) 4
def d43 : DefT := ⟨43, "__eq__", "Form.__eq__", s43, ["self", "other"], ["self", "other"], 60⟩
theorem ok43 : d43.ok L.tab prog = true := by decide +kernel
abbrev s44 : Stmt := inClass (top 65) 5
def d44 : DefT := ⟨44, "__or__", "Form.__or__", s44, ["self", "other", "clauses", "value", "level", "end"], ["self", "other"], 60⟩
theorem ok44 : d44.ok L.tab prog = true := by decide +kernel
abbrev s45 : Stmt := top 66
def d45 : DefT := ⟨45, "kinds", "kinds", s45, ["form", "normal", "words", "filters", "ends", "fits", "clause", "word", "does_fit"], ["form"], 60⟩
theorem ok45 : d45.ok L.tab prog = true := by decide +kernel
abbrev s46 : Stmt := top 68
def d46 : DefT := ⟨46, "_law_begin", "_law_begin", s46, ["_law_script", "_law_cells", "_law_cell"], ["_law_script"], 60⟩
theorem ok46 : d46.ok L.tab prog = true := by decide +kernel
abbrev s47 : Stmt := top 69
def d47 : DefT := ⟨47, "_law_draw", "_law_draw", s47, ["_law_state", "_law_size", "_law_turn", "_law_cell", "_law_mixed", "_law_found"], ["_law_state", "_law_size"], 60⟩
theorem ok47 : d47.ok L.tab prog = true := by decide +kernel
abbrev s48 : Stmt := top 70
def d48 : DefT := ⟨48, "_law_pick", "_law_pick", s48, ["_law_state", "_law_some"], ["_law_state", "_law_some"], 60⟩
theorem ok48 : d48.ok L.tab prog = true := by decide +kernel
abbrev s49 : Stmt := top 71
def d49 : DefT := ⟨49, "_law_name", "_law_name", s49, ["_law_state", "_law_way", "_law_letters", "_law_rest", "_law_k"], ["_law_state"], 60⟩
theorem ok49 : d49.ok L.tab prog = true := by decide +kernel
abbrev s50 : Stmt := top 72
def d50 : DefT := ⟨50, "_law_height", "_law_height", s50, ["_law_value_here", "_law_each"], ["_law_value_here"], 60⟩
theorem ok50 : d50.ok L.tab prog = true := by decide +kernel
abbrev s51 : Stmt := top 73
def d51 : DefT := ⟨51, "_law_value", "_law_value", s51, ["_law_state", "_law_level", "_law_called"], ["_law_state", "_law_level", "_law_called"], 60⟩
theorem ok51 : d51.ok L.tab prog = true := by decide +kernel
abbrev s52 : Stmt := top 74
def d52 : DefT := ⟨52, "_law_term", "_law_term", s52, ["_law_state", "_law_names", "_law_level", "_law_called", "_law_low", "_law_values", "_law_each", "_law_k"], ["_law_state", "_law_names", "_law_level", "_law_called"], 60⟩
theorem ok52 : d52.ok L.tab prog = true := by decide +kernel
abbrev s53 : Stmt := top 75
def d53 : DefT := ⟨53, "_law_condition", "_law_condition", s53, ["_law_state", "_law_names", "_law_level", "_law_called", "_law_room", "_law_way", "_law_many", "_law_parts_here", "_law_part", "_law_k"], ["_law_state", "_law_names", "_law_level", "_law_called", "_law_room"], 60⟩
theorem ok53 : d53.ok L.tab prog = true := by decide +kernel
abbrev s54 : Stmt := top 76
def d54 : DefT := ⟨54, "_law_parts", "_law_parts", s54, ["_law_form"], ["_law_form"], 60⟩
theorem ok54 : d54.ok L.tab prog = true := by decide +kernel
abbrev s55 : Stmt := top 77
def d55 : DefT := ⟨55, "_law_flat", "_law_flat", s55, ["_law_condition_here", "_law_word", "_law_found", "_law_one", "_law_part"], ["_law_condition_here"], 60⟩
theorem ok55 : d55.ok L.tab prog = true := by decide +kernel
abbrev s56 : Stmt := top 78
def d56 : DefT := ⟨56, "_law_merged", "_law_merged", s56, ["_law_clauses", "_law_found", "_law_word", "_law_condition_here", "_law_level"], ["_law_clauses"], 60⟩
theorem ok56 : d56.ok L.tab prog = true := by decide +kernel
abbrev s57 : Stmt := top 79
def d57 : DefT := ⟨57, "law", "law", s57, ["_law_script", "_law_state", "_law_turn", "_law_k", "_law_forms", "_law_due", "_law_words", "_law_names", "_law_clauses", "_law_front", "_law_back", "_law_clause"], ["_law_script"], 60⟩
theorem ok57 : d57.ok L.tab prog = true := by decide +kernel
abbrev W := wpN prog kit.get
abbrev GG (n : Nat) : G3 := gN prog kit.get n
theorem GG_kit : (∀ (n : Nat) (t u : String), (GG n).kit (.inl t) (.inl u) = kitPlain.get (.inl t) (.inl u)) ∧ ∀ (t u : String), kit.get (.inl t) (.inl u) = kitPlain.get (.inl t) (.inl u) := ⟨fun _ t u => kit_app (own := kitOwn) (by decide +kernel) t u, fun t u => kit_app (own := kitOwn) (by decide +kernel) t u⟩
theorem GG_own : (∀ n : Nat, (GG n).kit (.inl "NoneType") (.inr 4) = some false) ∧ kit.get (.inl "NoneType") (.inr 4) = some false ∧ (∀ n : Nat, (GG n).kit (.inl "bool") (.inr 4) = some false) ∧ kit.get (.inl "bool") (.inr 4) = some false ∧ (∀ n : Nat, (GG n).kit (.inl "int") (.inr 4) = some false) ∧ kit.get (.inl "int") (.inr 4) = some false ∧ (∀ n : Nat, (GG n).kit (.inl "str") (.inr 4) = some false) ∧ kit.get (.inl "str") (.inr 4) = some false ∧ (∀ n : Nat, (GG n).kit (.inl "tuple") (.inr 4) = some false) ∧ kit.get (.inl "tuple") (.inr 4) = some false ∧ (∀ n : Nat, (GG n).kit (.inl "list") (.inr 4) = some false) ∧ kit.get (.inl "list") (.inr 4) = some false ∧ (∀ n : Nat, (GG n).kit (.inl "dict") (.inr 4) = some false) ∧ kit.get (.inl "dict") (.inr 4) = some false ∧ (∀ n : Nat, (GG n).kit (.inr 4) (.inr 4) = some true) ∧ kit.get (.inr 4) (.inr 4) = some true ∧ (∀ n : Nat, (GG n).kit (.inr 4) (.inl "bool") = some false) ∧ kit.get (.inr 4) (.inl "bool") = some false ∧ (∀ n : Nat, (GG n).kit (.inr 4) (.inl "int") = some false) ∧ kit.get (.inr 4) (.inl "int") = some false ∧ (∀ n : Nat, (GG n).kit (.inr 4) (.inl "str") = some false) ∧ kit.get (.inr 4) (.inl "str") = some false ∧ (∀ n : Nat, (GG n).kit (.inr 4) (.inl "tuple") = some false) ∧ kit.get (.inr 4) (.inl "tuple") = some false ∧ (∀ n : Nat, (GG n).kit (.inr 4) (.inl "list") = some false) ∧ kit.get (.inr 4) (.inl "list") = some false := ⟨fun _ => (by decide +kernel : kit.get (.inl "NoneType") (.inr 4) = some false), by decide +kernel, fun _ => (by decide +kernel : kit.get (.inl "bool") (.inr 4) = some false), by decide +kernel, fun _ => (by decide +kernel : kit.get (.inl "int") (.inr 4) = some false), by decide +kernel, fun _ => (by decide +kernel : kit.get (.inl "str") (.inr 4) = some false), by decide +kernel, fun _ => (by decide +kernel : kit.get (.inl "tuple") (.inr 4) = some false), by decide +kernel, fun _ => (by decide +kernel : kit.get (.inl "list") (.inr 4) = some false), by decide +kernel, fun _ => (by decide +kernel : kit.get (.inl "dict") (.inr 4) = some false), by decide +kernel, fun _ => (by decide +kernel : kit.get (.inr 4) (.inr 4) = some true), by decide +kernel, fun _ => (by decide +kernel : kit.get (.inr 4) (.inl "bool") = some false), by decide +kernel, fun _ => (by decide +kernel : kit.get (.inr 4) (.inl "int") = some false), by decide +kernel, fun _ => (by decide +kernel : kit.get (.inr 4) (.inl "str") = some false), by decide +kernel, fun _ => (by decide +kernel : kit.get (.inr 4) (.inl "tuple") = some false), by decide +kernel, fun _ => (by decide +kernel : kit.get (.inr 4) (.inl "list") = some false), by decide +kernel⟩
theorem GG_call (n f : Nat) : (GG n).call f = W n f := rfl
theorem GG_make (n f : Nat) : (GG (n + 1)).make f = W n f := rfl
theorem W_is_number (n : Nat) (x0 : D) (C : CH) (Q : Kv) (E : Kx) : W (n + 1) i_is_number [x0] C Q E = rdSs (GG n) (exN E) b_is_number (endN Q) [some x0] C := by
  rw [W, wpN_eq _ _ _ _ _ _ _ _ ⟨1, 1, b_is_number⟩ rfl rfl]; rfl
theorem W_is_name (n : Nat) (x0 : D) (C : CH) (Q : Kv) (E : Kx) : W (n + 1) i_is_name [x0] C Q E = rdSs (GG n) (exN E) b_is_name (endN Q) [some x0, none] C := by
  rw [W, wpN_eq _ _ _ _ _ _ _ _ ⟨1, 2, b_is_name⟩ rfl rfl]; rfl
theorem W_is_word (n : Nat) (x0 : D) (C : CH) (Q : Kv) (E : Kx) : W (n + 1) i_is_word [x0] C Q E = rdSs (GG n) (exN E) b_is_word (endN Q) [some x0, none] C := by
  rw [W, wpN_eq _ _ _ _ _ _ _ _ ⟨1, 2, b_is_word⟩ rfl rfl]; rfl
theorem W_measured (n : Nat) (x0 x1 : D) (C : CH) (Q : Kv) (E : Kx) : W (n + 1) i_measured [x0, x1] C Q E = rdSs (GG n) (exN E) b_measured (endN Q) [some x0, some x1, none, none] C := by
  rw [W, wpN_eq _ _ _ _ _ _ _ _ ⟨2, 4, b_measured⟩ rfl rfl]; rfl
theorem W_is_value (n : Nat) (x0 : D) (C : CH) (Q : Kv) (E : Kx) : W (n + 1) i_is_value [x0] C Q E = rdSs (GG n) (exN E) b_is_value (endN Q) [some x0] C := by
  rw [W, wpN_eq _ _ _ _ _ _ _ _ ⟨1, 1, b_is_value⟩ rfl rfl]; rfl
theorem W_is_term (n : Nat) (x0 : D) (C : CH) (Q : Kv) (E : Kx) : W (n + 1) i_is_term [x0] C Q E = rdSs (GG n) (exN E) b_is_term (endN Q) [some x0] C := by
  rw [W, wpN_eq _ _ _ _ _ _ _ _ ⟨1, 1, b_is_term⟩ rfl rfl]; rfl
theorem W_sizes_of (n : Nat) (x0 : D) (C : CH) (Q : Kv) (E : Kx) : W (n + 1) i_sizes_of [x0] C Q E = rdSs (GG n) (exN E) b_sizes_of (endN Q) [some x0, none] C := by
  rw [W, wpN_eq _ _ _ _ _ _ _ _ ⟨1, 2, b_sizes_of⟩ rfl rfl]; rfl
theorem W_highest (n : Nat) (x0 : D) (C : CH) (Q : Kv) (E : Kx) : W (n + 1) i_highest [x0] C Q E = rdSs (GG n) (exN E) b_highest (endN Q) [some x0] C := by
  rw [W, wpN_eq _ _ _ _ _ _ _ _ ⟨1, 1, b_highest⟩ rfl rfl]; rfl
theorem W_may_use (n : Nat) (x0 x1 x2 : D) (C : CH) (Q : Kv) (E : Kx) : W (n + 1) i_may_use [x0, x1, x2] C Q E = rdSs (GG n) (exN E) b_may_use (endN Q) [some x0, some x1, some x2] C := by
  rw [W, wpN_eq _ _ _ _ _ _ _ _ ⟨3, 3, b_may_use⟩ rfl rfl]; rfl
theorem W_may_call (n : Nat) (x0 x1 x2 : D) (C : CH) (Q : Kv) (E : Kx) : W (n + 1) i_may_call [x0, x1, x2] C Q E = rdSs (GG n) (exN E) b_may_call (endN Q) [some x0, some x1, some x2, none] C := by
  rw [W, wpN_eq _ _ _ _ _ _ _ _ ⟨3, 4, b_may_call⟩ rfl rfl]; rfl
theorem W_is_shaped (n : Nat) (x0 : D) (C : CH) (Q : Kv) (E : Kx) : W (n + 1) i_is_shaped [x0] C Q E = rdSs (GG n) (exN E) b_is_shaped (endN Q) [some x0] C := by
  rw [W, wpN_eq _ _ _ _ _ _ _ _ ⟨1, 1, b_is_shaped⟩ rfl rfl]; rfl
theorem W_is_condition (n : Nat) (x0 x1 x2 : D) (C : CH) (Q : Kv) (E : Kx) : W (n + 1) i_is_condition [x0, x1, x2] C Q E = rdSs (GG n) (exN E) b_is_condition (endN Q) [some x0, some x1, some x2, none, none, none, none, none, none, none] C := by
  rw [W, wpN_eq _ _ _ _ _ _ _ _ ⟨3, 10, b_is_condition⟩ rfl rfl]; rfl
theorem W_parts_of (n : Nat) (x0 : D) (C : CH) (Q : Kv) (E : Kx) : W (n + 1) i_parts_of [x0] C Q E = rdSs (GG n) (exN E) b_parts_of (endN Q) [some x0] C := by
  rw [W, wpN_eq _ _ _ _ _ _ _ _ ⟨1, 1, b_parts_of⟩ rfl rfl]; rfl
theorem W_asks (n : Nat) (x0 : D) (C : CH) (Q : Kv) (E : Kx) : W (n + 1) i_asks [x0] C Q E = rdSs (GG n) (exN E) b_asks (endN Q) [some x0, none, none, none] C := by
  rw [W, wpN_eq _ _ _ _ _ _ _ _ ⟨1, 4, b_asks⟩ rfl rfl]; rfl
theorem W_flat (n : Nat) (x0 x1 : D) (C : CH) (Q : Kv) (E : Kx) : W (n + 1) i_flat [x0, x1] C Q E = rdSs (GG n) (exN E) b_flat (endN Q) [some x0, some x1, none, none] C := by
  rw [W, wpN_eq _ _ _ _ _ _ _ _ ⟨2, 4, b_flat⟩ rfl rfl]; rfl
theorem W_contrary (n : Nat) (x0 : D) (C : CH) (Q : Kv) (E : Kx) : W (n + 1) i_contrary [x0] C Q E = rdSs (GG n) (exN E) b_contrary (endN Q) [some x0] C := by
  rw [W, wpN_eq _ _ _ _ _ _ _ _ ⟨1, 1, b_contrary⟩ rfl rfl]; rfl
theorem W_settled (n : Nat) (x0 x1 : D) (C : CH) (Q : Kv) (E : Kx) : W (n + 1) i_settled [x0, x1] C Q E = rdSs (GG n) (exN E) b_settled (endN Q) [some x0, some x1, none, none] C := by
  rw [W, wpN_eq _ _ _ _ _ _ _ _ ⟨2, 4, b_settled⟩ rfl rfl]; rfl
theorem W_value_in (n : Nat) (x0 x1 x2 : D) (C : CH) (Q : Kv) (E : Kx) : W (n + 1) i_value_in [x0, x1, x2] C Q E = rdSs (GG n) (exN E) b_value_in (endN Q) [some x0, some x1, some x2, none] C := by
  rw [W, wpN_eq _ _ _ _ _ _ _ _ ⟨3, 4, b_value_in⟩ rfl rfl]; rfl
theorem W_emitted_in (n : Nat) (x0 x1 x2 : D) (C : CH) (Q : Kv) (E : Kx) : W (n + 1) i_emitted_in [x0, x1, x2] C Q E = rdSs (GG n) (exN E) b_emitted_in (endN Q) [some x0, some x1, some x2] C := by
  rw [W, wpN_eq _ _ _ _ _ _ _ _ ⟨3, 3, b_emitted_in⟩ rfl rfl]; rfl
theorem W_condition_in (n : Nat) (x0 x1 x2 : D) (C : CH) (Q : Kv) (E : Kx) : W (n + 1) i_condition_in [x0, x1, x2] C Q E = rdSs (GG n) (exN E) b_condition_in (endN Q) [some x0, some x1, some x2, none, none] C := by
  rw [W, wpN_eq _ _ _ _ _ _ _ _ ⟨3, 5, b_condition_in⟩ rfl rfl]; rfl
theorem W_level_in (n : Nat) (x0 x1 x2 : D) (C : CH) (Q : Kv) (E : Kx) : W (n + 1) i_level_in [x0, x1, x2] C Q E = rdSs (GG n) (exN E) b_level_in (endN Q) [some x0, some x1, some x2] C := by
  rw [W, wpN_eq _ _ _ _ _ _ _ _ ⟨3, 3, b_level_in⟩ rfl rfl]; rfl
theorem W_clause_in (n : Nat) (x0 x1 x2 x3 : D) (C : CH) (Q : Kv) (E : Kx) : W (n + 1) i_clause_in [x0, x1, x2, x3] C Q E = rdSs (GG n) (exN E) b_clause_in (endN Q) [some x0, some x1, some x2, some x3, none] C := by
  rw [W, wpN_eq _ _ _ _ _ _ _ _ ⟨4, 5, b_clause_in⟩ rfl rfl]; rfl
theorem W_rise (n : Nat) (x0 : D) (C : CH) (Q : Kv) (E : Kx) : W (n + 1) i_rise [x0] C Q E = rdSs (GG n) (exN E) b_rise (endN Q) [some x0, none, none] C := by
  rw [W, wpN_eq _ _ _ _ _ _ _ _ ⟨1, 3, b_rise⟩ rfl rfl]; rfl
theorem W_tallness (n : Nat) (x0 : D) (C : CH) (Q : Kv) (E : Kx) : W (n + 1) i_tallness [x0] C Q E = rdSs (GG n) (exN E) b_tallness (endN Q) [some x0, none] C := by
  rw [W, wpN_eq _ _ _ _ _ _ _ _ ⟨1, 2, b_tallness⟩ rfl rfl]; rfl
theorem W_tallest_in (n : Nat) (x0 : D) (C : CH) (Q : Kv) (E : Kx) : W (n + 1) i_tallest_in [x0] C Q E = rdSs (GG n) (exN E) b_tallest_in (endN Q) [some x0, none, none] C := by
  rw [W, wpN_eq _ _ _ _ _ _ _ _ ⟨1, 3, b_tallest_in⟩ rfl rfl]; rfl
theorem W_height_of (n : Nat) (x0 : D) (C : CH) (Q : Kv) (E : Kx) : W (n + 1) i_height_of [x0] C Q E = rdSs (GG n) (exN E) b_height_of (endN Q) [some x0, none] C := by
  rw [W, wpN_eq _ _ _ _ _ _ _ _ ⟨1, 2, b_height_of⟩ rfl rfl]; rfl
theorem W_top_of (n : Nat) (x0 x1 : D) (C : CH) (Q : Kv) (E : Kx) : W (n + 1) i_top_of [x0, x1] C Q E = rdSs (GG n) (exN E) b_top_of (endN Q) [some x0, some x1, none, none, none] C := by
  rw [W, wpN_eq _ _ _ _ _ _ _ _ ⟨2, 5, b_top_of⟩ rfl rfl]; rfl
theorem W_asks_in (n : Nat) (x0 : D) (C : CH) (Q : Kv) (E : Kx) : W (n + 1) i_asks_in [x0] C Q E = rdSs (GG n) (exN E) b_asks_in (endN Q) [some x0, none] C := by
  rw [W, wpN_eq _ _ _ _ _ _ _ _ ⟨1, 2, b_asks_in⟩ rfl rfl]; rfl
theorem W_need_ (n : Nat) (x0 x1 : D) (C : CH) (Q : Kv) (E : Kx) : W (n + 1) i_need_ [x0, x1] C Q E = rdSs (GG n) (exN E) b_need_ (endN Q) [some x0, some x1] C := by
  rw [W, wpN_eq _ _ _ _ _ _ _ _ ⟨2, 2, b_need_⟩ rfl rfl]; rfl
theorem W_need_joinable (n : Nat) (x0 x1 : D) (C : CH) (Q : Kv) (E : Kx) : W (n + 1) i_need_joinable [x0, x1] C Q E = rdSs (GG n) (exN E) b_need_joinable (endN Q) [some x0, some x1, none, none, none, none, none, none, none, none] C := by
  rw [W, wpN_eq _ _ _ _ _ _ _ _ ⟨2, 10, b_need_joinable⟩ rfl rfl]; rfl
theorem W_chained (n : Nat) (x0 x1 : D) (C : CH) (Q : Kv) (E : Kx) : W (n + 1) i_chained [x0, x1] C Q E = rdSs (GG n) (exN E) b_chained (endN Q) [some x0, some x1, none, none, none, none, none, none, none] C := by
  rw [W, wpN_eq _ _ _ _ _ _ _ _ ⟨2, 9, b_chained⟩ rfl rfl]; rfl
theorem W_standings (n : Nat) (x0 : D) (C : CH) (Q : Kv) (E : Kx) : W (n + 1) i_standings [x0] C Q E = rdSs (GG n) (exN E) b_standings (endN Q) [some x0, none, none, none] C := by
  rw [W, wpN_eq _ _ _ _ _ _ _ _ ⟨1, 4, b_standings⟩ rfl rfl]; rfl
theorem W_once_settled (n : Nat) (x0 x1 : D) (C : CH) (Q : Kv) (E : Kx) : W (n + 1) i_once_settled [x0, x1] C Q E = rdSs (GG n) (exN E) b_once_settled (endN Q) [some x0, some x1, none, none, none, none, none, none] C := by
  rw [W, wpN_eq _ _ _ _ _ _ _ _ ⟨2, 8, b_once_settled⟩ rfl rfl]; rfl
theorem W_normal_clauses (n : Nat) (x0 x1 : D) (C : CH) (Q : Kv) (E : Kx) : W (n + 1) i_normal_clauses [x0, x1] C Q E = rdSs (GG n) (exN E) b_normal_clauses (endN Q) [some x0, some x1, none, none] C := by
  rw [W, wpN_eq _ _ _ _ _ _ _ _ ⟨2, 4, b_normal_clauses⟩ rfl rfl]; rfl
theorem W_may_emit (n : Nat) (x0 x1 x2 : D) (C : CH) (Q : Kv) (E : Kx) : W (n + 1) i_may_emit [x0, x1, x2] C Q E = rdSs (GG n) (exN E) b_may_emit (endN Q) [some x0, some x1, some x2] C := by
  rw [W, wpN_eq _ _ _ _ _ _ _ _ ⟨3, 3, b_may_emit⟩ rfl rfl]; rfl
theorem W_is_level (n : Nat) (x0 x1 : D) (C : CH) (Q : Kv) (E : Kx) : W (n + 1) i_is_level [x0, x1] C Q E = rdSs (GG n) (exN E) b_is_level (endN Q) [some x0, some x1] C := by
  rw [W, wpN_eq _ _ _ _ _ _ _ _ ⟨2, 2, b_is_level⟩ rfl rfl]; rfl
theorem W_is_clause (n : Nat) (x0 x1 x2 : D) (C : CH) (Q : Kv) (E : Kx) : W (n + 1) i_is_clause [x0, x1, x2] C Q E = rdSs (GG n) (exN E) b_is_clause (endN Q) [some x0, some x1, some x2] C := by
  rw [W, wpN_eq _ _ _ _ _ _ _ _ ⟨3, 3, b_is_clause⟩ rfl rfl]; rfl
theorem W_need (n : Nat) (x0 x1 : D) (C : CH) (Q : Kv) (E : Kx) : W (n + 1) i_need [x0, x1] C Q E = rdSs (GG n) (exN E) b_need (endN Q) [some x0, some x1] C := by
  rw [W, wpN_eq _ _ _ _ _ _ _ _ ⟨2, 2, b_need⟩ rfl rfl]; rfl
theorem W_walked (n : Nat) (x0 : D) (C : CH) (Q : Kv) (E : Kx) : W (n + 1) i_walked [x0] C Q E = rdSs (GG n) (exN E) b_walked (endN Q) [some x0, none, none, none, none] C := by
  rw [W, wpN_eq _ _ _ _ _ _ _ _ ⟨1, 5, b_walked⟩ rfl rfl]; rfl
theorem W_Form___init__ (n : Nat) (x0 x1 x2 x3 x4 : D) (C : CH) (Q : Kv) (E : Kx) : W (n + 1) i_Form___init__ [x0, x1, x2, x3, x4] C Q E = rdSs (GG n) (exN E) b_Form___init__ (endN Q) [some x0, some x1, some x2, some x3, some x4, none, none] C := by
  rw [W, wpN_eq _ _ _ _ _ _ _ _ ⟨5, 7, b_Form___init__⟩ rfl rfl]; rfl
theorem W_Form_parts (n : Nat) (x0 : D) (C : CH) (Q : Kv) (E : Kx) : W (n + 1) i_Form_parts [x0] C Q E = rdSs (GG n) (exN E) b_Form_parts (endN Q) [some x0] C := by
  rw [W, wpN_eq _ _ _ _ _ _ _ _ ⟨1, 1, b_Form_parts⟩ rfl rfl]; rfl
theorem W_Form_normal (n : Nat) (x0 : D) (C : CH) (Q : Kv) (E : Kx) : W (n + 1) i_Form_normal [x0] C Q E = rdSs (GG n) (exN E) b_Form_normal (endN Q) [some x0] C := by
  rw [W, wpN_eq _ _ _ _ _ _ _ _ ⟨1, 1, b_Form_normal⟩ rfl rfl]; rfl
theorem W_Form___len__ (n : Nat) (x0 : D) (C : CH) (Q : Kv) (E : Kx) : W (n + 1) i_Form___len__ [x0] C Q E = rdSs (GG n) (exN E) b_Form___len__ (endN Q) [some x0] C := by
  rw [W, wpN_eq _ _ _ _ _ _ _ _ ⟨1, 1, b_Form___len__⟩ rfl rfl]; rfl
theorem W_Form___eq__ (n : Nat) (x0 x1 : D) (C : CH) (Q : Kv) (E : Kx) : W (n + 1) i_Form___eq__ [x0, x1] C Q E = rdSs (GG n) (exN E) b_Form___eq__ (endN Q) [some x0, some x1] C := by
  rw [W, wpN_eq _ _ _ _ _ _ _ _ ⟨2, 2, b_Form___eq__⟩ rfl rfl]; rfl
theorem W_Form___or__ (n : Nat) (x0 x1 : D) (C : CH) (Q : Kv) (E : Kx) : W (n + 1) i_Form___or__ [x0, x1] C Q E = rdSs (GG n) (exN E) b_Form___or__ (endN Q) [some x0, some x1, none, none, none, none] C := by
  rw [W, wpN_eq _ _ _ _ _ _ _ _ ⟨2, 6, b_Form___or__⟩ rfl rfl]; rfl
theorem W_kinds (n : Nat) (x0 : D) (C : CH) (Q : Kv) (E : Kx) : W (n + 1) i_kinds [x0] C Q E = rdSs (GG n) (exN E) b_kinds (endN Q) [some x0, none, none, none, none, none, none, none, none] C := by
  rw [W, wpN_eq _ _ _ _ _ _ _ _ ⟨1, 9, b_kinds⟩ rfl rfl]; rfl
theorem W__law_begin (n : Nat) (x0 : D) (C : CH) (Q : Kv) (E : Kx) : W (n + 1) i__law_begin [x0] C Q E = rdSs (GG n) (exN E) b__law_begin (endN Q) [some x0, none, none] C := by
  rw [W, wpN_eq _ _ _ _ _ _ _ _ ⟨1, 3, b__law_begin⟩ rfl rfl]; rfl
theorem W__law_draw (n : Nat) (x0 x1 : D) (C : CH) (Q : Kv) (E : Kx) : W (n + 1) i__law_draw [x0, x1] C Q E = rdSs (GG n) (exN E) b__law_draw (endN Q) [some x0, some x1, none, none, none, none] C := by
  rw [W, wpN_eq _ _ _ _ _ _ _ _ ⟨2, 6, b__law_draw⟩ rfl rfl]; rfl
theorem W__law_pick (n : Nat) (x0 x1 : D) (C : CH) (Q : Kv) (E : Kx) : W (n + 1) i__law_pick [x0, x1] C Q E = rdSs (GG n) (exN E) b__law_pick (endN Q) [some x0, some x1] C := by
  rw [W, wpN_eq _ _ _ _ _ _ _ _ ⟨2, 2, b__law_pick⟩ rfl rfl]; rfl
theorem W__law_name (n : Nat) (x0 : D) (C : CH) (Q : Kv) (E : Kx) : W (n + 1) i__law_name [x0] C Q E = rdSs (GG n) (exN E) b__law_name (endN Q) [some x0, none, none, none, none] C := by
  rw [W, wpN_eq _ _ _ _ _ _ _ _ ⟨1, 5, b__law_name⟩ rfl rfl]; rfl
theorem W__law_height (n : Nat) (x0 : D) (C : CH) (Q : Kv) (E : Kx) : W (n + 1) i__law_height [x0] C Q E = rdSs (GG n) (exN E) b__law_height (endN Q) [some x0, none] C := by
  rw [W, wpN_eq _ _ _ _ _ _ _ _ ⟨1, 2, b__law_height⟩ rfl rfl]; rfl
theorem W__law_value (n : Nat) (x0 x1 x2 : D) (C : CH) (Q : Kv) (E : Kx) : W (n + 1) i__law_value [x0, x1, x2] C Q E = rdSs (GG n) (exN E) b__law_value (endN Q) [some x0, some x1, some x2] C := by
  rw [W, wpN_eq _ _ _ _ _ _ _ _ ⟨3, 3, b__law_value⟩ rfl rfl]; rfl
theorem W__law_term (n : Nat) (x0 x1 x2 x3 : D) (C : CH) (Q : Kv) (E : Kx) : W (n + 1) i__law_term [x0, x1, x2, x3] C Q E = rdSs (GG n) (exN E) b__law_term (endN Q) [some x0, some x1, some x2, some x3, none, none, none, none] C := by
  rw [W, wpN_eq _ _ _ _ _ _ _ _ ⟨4, 8, b__law_term⟩ rfl rfl]; rfl
theorem W__law_condition (n : Nat) (x0 x1 x2 x3 x4 : D) (C : CH) (Q : Kv) (E : Kx) : W (n + 1) i__law_condition [x0, x1, x2, x3, x4] C Q E = rdSs (GG n) (exN E) b__law_condition (endN Q) [some x0, some x1, some x2, some x3, some x4, none, none, none, none, none] C := by
  rw [W, wpN_eq _ _ _ _ _ _ _ _ ⟨5, 10, b__law_condition⟩ rfl rfl]; rfl
theorem W__law_parts (n : Nat) (x0 : D) (C : CH) (Q : Kv) (E : Kx) : W (n + 1) i__law_parts [x0] C Q E = rdSs (GG n) (exN E) b__law_parts (endN Q) [some x0] C := by
  rw [W, wpN_eq _ _ _ _ _ _ _ _ ⟨1, 1, b__law_parts⟩ rfl rfl]; rfl
theorem W__law_flat (n : Nat) (x0 : D) (C : CH) (Q : Kv) (E : Kx) : W (n + 1) i__law_flat [x0] C Q E = rdSs (GG n) (exN E) b__law_flat (endN Q) [some x0, none, none, none, none] C := by
  rw [W, wpN_eq _ _ _ _ _ _ _ _ ⟨1, 5, b__law_flat⟩ rfl rfl]; rfl
theorem W__law_merged (n : Nat) (x0 : D) (C : CH) (Q : Kv) (E : Kx) : W (n + 1) i__law_merged [x0] C Q E = rdSs (GG n) (exN E) b__law_merged (endN Q) [some x0, none, none, none, none] C := by
  rw [W, wpN_eq _ _ _ _ _ _ _ _ ⟨1, 5, b__law_merged⟩ rfl rfl]; rfl
theorem W_law (n : Nat) (x0 : D) (C : CH) (Q : Kv) (E : Kx) : W (n + 1) i_law [x0] C Q E = rdSs (GG n) (exN E) b_law (endN Q) [some x0, none, none, none, none, none, none, none, none, none, none, none] C := by
  rw [W, wpN_eq _ _ _ _ _ _ _ _ ⟨1, 12, b_law⟩ rfl rfl]; rfl
end My

namespace My
open PySem L3
local macro_rules | `(tactic| simp_arith [$t,*]) => `(tactic| simp only [rdSs_nil, rdS, rdE, rdT, rdA, rdLs, rdIfs, rdO, sNext, sRet, sRetN, sIf, sDrop, sAsg, sPar, sPar3, sSet, sBreak, sCont, sRaise, cAndV, cOrV, cNotV, cAnd, cOr, cNot, cTst, cIf, cUn, cBin, cList, cNil, cCons, cVar, cC, cChain, cMt, cSl, cPart, cNoPart, cCall, cArgs, endN, exN, semB, semC, semBI, semMI, semIK, tyMI, hT, bindT, setAll, L3.CT.slots, oIsi, oNeg, oAddA_int, oAddA_str, oAddA_tup, oI2_int, oMulA_int, oMulA_tup, oIxA_tup, oIxA_rls, oIxA_str, oSl_tup, oSl_str, oEqN_int, oEqN_bl, oInF_str2, atI_zero, atI_one, atI_two, oLen, oInt, oAbs, oIs, isNon, oTup, oInS, gath, L3.Src.get, Option.map, List.getD_cons_zero, List.getD_cons_succ, SqC_tup, SqC_rls, SqC_ref, SqC_str, SqC_int, LsC_iff, tyC_non, tyC_bl, tyC_int, tyC_str, tyC_tup, cup_same, List.getElem?_cons_zero, List.getElem?_cons_succ, List.set_cons_zero, List.set_cons_succ, List.length_cons, List.length_nil, List.map_cons, List.map_nil, List.zip_cons_cons, Option.some.injEq, L3.D.bl.injEq, L3.D.int.injEq, L3.D.str.injEq, L3.D.tup.injEq, L3.D.rls.injEq, L3.D.ref.injEq, List.cons.injEq, L3.CO.lst.injEq, L3.CO.dic.injEq, reduceCtorEq, exists_eq_left, exists_eq_left', exists_eq, exists_eq', and_true, true_and, and_false, false_and, or_false, false_or, or_true, true_or, exists_false, exists_const, ite_true, ite_false, if_true, if_false, Bool.not_true, Bool.not_false, Bool.true_eq_false, Bool.false_eq_true, id_eq, eq_self, eq_self_iff_true, and_self, or_self, exists_and_left, exists_and_right, Nat.zero_add, Nat.add_eq, forall_const, sl_lt0, sl_le0, sl_lt1, sl_le1, sl_lt2, sl_le2, sl_lt3, sl_le3, sl_lt4, sl_le4, sl_lt5, sl_le5, sl_lt6, sl_le6, sl_lt7, sl_le7, sl_lt8, sl_le8, sl_lt9, sl_le9, sl_lt10, sl_le10, sl_lt11, sl_le11, sl_lt12, sl_le12, Nat.reduceAdd, Nat.reduceLeDiff, Int.reduceLE, Int.reduceLT, Int.cast_ofNat_Int, decide_true, decide_false, k_NoneType_int, k_bool_int, k_int_int, k_str_int, k_tuple_int, k_list_int, k_dict_int, k_NoneType_bool, k_bool_bool, k_int_bool, k_str_bool, k_tuple_bool, k_list_bool, k_dict_bool, k_NoneType_str, k_bool_str, k_int_str, k_str_str, k_tuple_str, k_list_str, k_dict_str, k_NoneType_tuple, k_bool_tuple, k_int_tuple, k_str_tuple, k_tuple_tuple, k_list_tuple, k_dict_tuple, k_NoneType_list, k_bool_list, k_int_list, k_str_list, k_tuple_list, k_list_list, k_dict_list, $t,*])
local macro_rules | `(tactic| simp_arith! [$t,*]) => `(tactic| simp only [rdSs, rdS, rdE, rdT, rdA, rdLs, rdIfs, rdO, sSeq, sNext, sRet, sRetN, sIf, sDrop, sAsg, sPar, sPar3, sSet, sBreak, sCont, sRaise, cAndV, cOrV, cNotV, cAnd, cOr, cNot, cTst, cIf, cUn, cBin, cList, cNil, cCons, cVar, cC, cChain, cMt, cSl, cPart, cNoPart, cCall, cArgs, gN, endN, exN, semB, semC, semBI, semMI, semIK, tyMI, hT, bindT, setAll, L3.CT.slots, oIsi, oNeg, oAddA_int, oAddA_str, oAddA_tup, oI2_int, oMulA_int, oMulA_tup, oIxA_tup, oIxA_rls, oIxA_str, oSl_tup, oSl_str, oEqN_int, oEqN_bl, oInF_str2, atI_zero, atI_one, atI_two, oLen, oInt, oAbs, oIs, isNon, oTup, oInS, gath, L3.Src.get, Option.map, List.getD_cons_zero, List.getD_cons_succ, SqC_tup, SqC_rls, SqC_ref, SqC_str, SqC_int, LsC_iff, tyC_non, tyC_bl, tyC_int, tyC_str, tyC_tup, cup_same, List.getElem?_cons_zero, List.getElem?_cons_succ, List.set_cons_zero, List.set_cons_succ, List.length_cons, List.length_nil, List.map_cons, List.map_nil, List.zip_cons_cons, Option.some.injEq, L3.D.bl.injEq, L3.D.int.injEq, L3.D.str.injEq, L3.D.tup.injEq, L3.D.rls.injEq, L3.D.ref.injEq, List.cons.injEq, L3.CO.lst.injEq, L3.CO.dic.injEq, reduceCtorEq, exists_eq_left, exists_eq_left', exists_eq, exists_eq', and_true, true_and, and_false, false_and, or_false, false_or, or_true, true_or, exists_false, exists_const, ite_true, ite_false, if_true, if_false, Bool.not_true, Bool.not_false, Bool.true_eq_false, Bool.false_eq_true, id_eq, eq_self, eq_self_iff_true, and_self, or_self, exists_and_left, exists_and_right, Nat.zero_add, Nat.add_eq, forall_const, sl_lt0, sl_le0, sl_lt1, sl_le1, sl_lt2, sl_le2, sl_lt3, sl_le3, sl_lt4, sl_le4, sl_lt5, sl_le5, sl_lt6, sl_le6, sl_lt7, sl_le7, sl_lt8, sl_le8, sl_lt9, sl_le9, sl_lt10, sl_le10, sl_lt11, sl_le11, sl_lt12, sl_le12, Nat.reduceAdd, Nat.reduceLeDiff, Int.reduceLE, Int.reduceLT, Int.cast_ofNat_Int, decide_true, decide_false, k_NoneType_int, k_bool_int, k_int_int, k_str_int, k_tuple_int, k_list_int, k_dict_int, k_NoneType_bool, k_bool_bool, k_int_bool, k_str_bool, k_tuple_bool, k_list_bool, k_dict_bool, k_NoneType_str, k_bool_str, k_int_str, k_str_str, k_tuple_str, k_list_str, k_dict_str, k_NoneType_tuple, k_bool_tuple, k_int_tuple, k_str_tuple, k_tuple_tuple, k_list_tuple, k_dict_tuple, k_NoneType_list, k_bool_list, k_int_list, k_str_list, k_tuple_list, k_list_list, k_dict_list, $t,*])
def isNum : T → Bool
  | .int _ => true
  | _ => false
theorem is_number_ok {n : Nat} {t : T} {C : CH} {Q : Kv} {E : Kx} (hq : Q (.bl (isNum t)) C) : W (n+1) i_is_number [t.d] C Q E := by
  rw [W_is_number]
  unfold b_is_number
  cases t <;> simp_arith! [T.d, GG_kit] <;> exact ⟨C, Sub.refl, hq⟩
theorem is_number_ref {n : Nat} {p : Addr} {xs : List D} {C : CH} {Q : Kv} {E : Kx} (h : C p = some (.lst xs)) (hq : Q (.bl false) C) : W (n+1) i_is_number [.ref p] C Q E := by
  rw [W_is_number]
  unfold b_is_number
  simp_arith! [GG_kit, tyC_lst h]
  exact ⟨C, Sub.refl, hq⟩
def LET : Str := "abcdefghijklmnopqrstuvwxyz"
def SIG : Str := "abcdefghijklmnopqrstuvwxyz0123456789"
def isNm (z : Str) : Bool := match z.cps.toList with
  | [] => false
  | c :: r => decide (z.length ≤ 8) && (decide (c ∈ LET.cps.toList) && (c :: r).all fun c => decide (c ∈ SIG.cps.toList))
def isName : T → Bool
  | .str z => isNm z
  | _ => false
theorem is_name_ok {n : Nat} {t : T} {C : CH} {Q : Kv} {E : Kx} (hq : Q (.bl (isName t)) C) (hz : ∀ z, t = .str z → z.length ≤ sizeLine) : W (n+1) i_is_name [t.d] C Q E := by
  rw [W_is_name]
  unfold b_is_name
  cases t with
  | str z =>
    simp_arith! [T.d, GG_kit]
    refine ⟨hz z rfl, ?_⟩
    have hn := len_cps z
    replace hq : Q (.bl (isNm z)) C := hq
    unfold isNm at hq
    cases hz' : z.cps.toList with
    | nil =>
      rw [hz'] at hn hq
      simp only [hn, List.length_nil]
      exact ⟨C, Sub.refl, hq⟩
    | cons c r =>
      rw [hz'] at hq
      have h1 : (1 : Int) ≤ (z.length : Int) := by rw [hn, hz', List.length_cons]; omega
      rw [if_pos (decide_eq_true h1)]
      by_cases h8 : z.length ≤ 8
      · have h8' : ((z.length : Nat) : Int) ≤ 8 := by omega
        rw [if_neg (by simp [h8'])]
        refine ⟨hz z rfl, c, atI_zero, c, rfl, ?_⟩
        by_cases hc : c ∈ LET.cps.toList
        · have hc' : c ∈ (Str.ofString "abcdefghijklmnopqrstuvwxyz").cps.toList := hc
          rw [if_neg (by simp [hc'])]
          refine ⟨_, rfl, z, rfl, ?_⟩
          refine lcL_map (fun d => match d with | .str y => .bl (decide (y.cps.toList.head?.getD 0 ∈ SIG.cps.toList)) | _ => .non) trivial _ [] (fun d hd => ?_) ?_ ?_
          · obtain ⟨a, ha, rfl⟩ := List.mem_map.mp hd
            refine ⟨_, rfl, fun Q' hQ => ?_⟩
            simp_arith! [wipe3]
            exact ⟨a, rfl, by simpa [SIG] using hQ⟩
          · rw [List.length_map, ← len_cps]; simp only [List.length_nil]; have := hz z rfl; omega
          · intro p hp
            rw [List.nil_append, List.map_map]
            refine oAll_new (bs := z.cps.toList.map fun c => decide (c ∈ SIG.cps.toList)) (by rw [List.map_map]; rfl) ⟨C, sub_new hp, ?_⟩
            rw [hz']
            simpa [h8, hc, List.all_map, Function.comp_def] using hq
        · have hc' : ¬ c ∈ (Str.ofString "abcdefghijklmnopqrstuvwxyz").cps.toList := hc
          rw [if_pos (by simp [hc'])]
          refine ⟨C, Sub.refl, ?_⟩
          simpa [hc] using hq
      · have h8' : ¬ ((z.length : Nat) : Int) ≤ 8 := by omega
        rw [if_pos (by simp [h8'])]
        refine ⟨C, Sub.refl, ?_⟩
        simpa [h8] using hq
  | _ => simp_arith! [T.d, GG_kit] <;> exact ⟨C, Sub.refl, hq⟩
/-- the height and the greatest level of a value -/
def both2 (x y : Option (Int × Int)) : Option (Int × Int) := match x, y with
  | some a, some b => some (1 + (if b.1 > a.1 then b.1 else a.1), if b.2 > a.2 then b.2 else a.2)
  | _, _ => none
def meas : Nat → T → Option (Int × Int)
  | _, .int i => if 1 ≤ i ∧ i ≤ 3 then some (0, i) else none
  | r + 1, .tup [h, a] => if isName h = true then (meas r a).map fun q => (1 + q.1, q.2) else none
  | r + 1, .tup [h, a, b] => if isName h = true then both2 (meas r a) (meas r b) else none
  | _, _ => none
def measD : Option (Int × Int) → D
  | none => .non
  | some q => .tup [.int q.1, .int q.2]
/-- no text in it is too long -/
def T.small : T → Prop := fun t => ∀ z, t = .str z → z.length ≤ sizeLine
mutual
def okT : T → Bool
  | .str z => decide (z.length ≤ sizeLine) && PyData.strOk z
  | .tup xs => okTs xs
  | _ => true
def okTs : List T → Bool
  | [] => true
  | x :: xs => okT x && okTs xs
end
/-- one item of «None in parts» -/
def measP : Option (Int × Int) → PyData
  | none => .none
  | some q => .tuple [.int q.1, .int q.2]
theorem measSnap (C : CH) : ∀ m, Snap C (measD m) (measP m)
  | none => .non
  | some q => .tup (.cons (.int _) (.cons (.int _) .nil))
theorem noneIn1 {C : CH} {p : Addr} {m : Option (Int × Int)} {Q : Kv} (h : C p = some (.lst [measD m])) (q : Q (.bl m.isNone) C) : oInD id .non (.ref p) C Q :=
  ⟨p, .none, _, [measP m], rfl, h, .non, .cons (measSnap C m) .nil, rfl, by cases m <;> rfl, by cases m <;> exact q⟩
theorem noneIn2 {C : CH} {p : Addr} {m k : Option (Int × Int)} {Q : Kv} (h : C p = some (.lst [measD m, measD k])) (q : Q (.bl (m.isNone || k.isNone)) C) : oInD id .non (.ref p) C Q :=
  ⟨p, .none, _, [measP m, measP k], rfl, h, .non, .cons (measSnap C m) (.cons (measSnap C k) .nil), rfl, by cases m <;> cases k <;> rfl, by cases m <;> cases k <;> exact q⟩
theorem ok_len {z : Str} (h : okT (.str z) = true) : z.length ≤ sizeLine := by
  simp only [okT, Bool.and_eq_true, decide_eq_true_eq] at h
  exact h.1
theorem measured_ok : ∀ (r n : Nat) (t : T) (C : CH) (Q : Kv) (E : Kx), okT t = true → Q (measD (meas r t)) C → W (n + r + 2) i_measured [t.d, .int r] C Q E := by
  intro r
  induction r with
  | zero =>
    intro n t C Q E ho hq
    rw [W_measured]
    unfold b_measured
    simp_arith! [GG_call]
    refine is_number_ok ?_
    cases t with
    | int i =>
      simp_arith! [isNum, T.d]
      by_cases h1 : 1 ≤ i <;> by_cases h3 : i ≤ 3 <;> simp only [h1, h3, decide_true, decide_false, if_true, Bool.false_eq_true, if_false] <;> simp only [meas, h1, h3, measD, and_self, and_true, and_false, if_true, if_false] at hq
      · exact ⟨C, Sub.refl, hq⟩
      all_goals exact ⟨C, Sub.refl, hq⟩
    | _ => simp_arith! [isNum]; simp only [meas, measD] at hq; exact ⟨C, Sub.refl, hq⟩
  | succ r ih =>
    intro n t C Q E ho hq
    rw [W_measured]
    unfold b_measured
    simp_arith! [GG_call]
    refine is_number_ok ?_
    have hr : (((r + 1 : Nat) : Int) = 0) = False := by simp; omega
    have e1 : ((r + 1 : Nat) : Int) - 1 = r := by omega
    cases t with
    | int i =>
      simp_arith! [isNum, T.d]
      by_cases h1 : 1 ≤ i <;> by_cases h3 : i ≤ 3 <;> simp only [h1, h3, decide_true, decide_false, if_true, Bool.false_eq_true, if_false] <;> simp only [meas, h1, h3, measD, and_self, and_true, and_false, if_true, if_false] at hq
      · exact ⟨C, Sub.refl, hq⟩
      all_goals exact ⟨C, Sub.refl, hq⟩
    | tup xs =>
      simp_arith! [isNum, T.d, GG_kit, GG_call, hr, decide_false, T.ds_length]
      match xs, ho, hq with
      | [], ho, hq => exact ⟨C, Sub.refl, hq⟩
      | [_], ho, hq => exact ⟨C, Sub.refl, hq⟩
      | _ :: _ :: _ :: _ :: l, ho, hq =>
        rw [if_pos (by simp; omega), if_pos (by simp; omega)]
        exact ⟨C, Sub.refl, hq⟩
      | [h, a], ho, hq =>
        simp_arith! [T.ds]
        simp only [okT, okTs, Bool.and_true, Bool.and_eq_true] at ho
        refine is_name_ok ?_ (fun z e => by rw [e] at ho; exact ok_len ho.1)
        simp only [meas] at hq
        by_cases hn : isName h = true
        · rw [if_pos hn] at hq
          simp_arith! [hn, cLc, iSeq, lcL, wipe3, cutD_tail, cYes, GG_call, e1]
          refine ih n a C _ _ ho.2 ?_
          intro p hp
          refine noneIn1 cup_same ?_
          cases hm : meas r a with
          | none =>
            rw [hm] at hq
            simp_arith! [Option.isNone]
            exact ⟨C, sub_new hp, hq⟩
          | some q =>
            rw [hm] at hq
            simp_arith! [Option.isNone, cLc, iSeq, lcL, wipe3, cYes, List.nil_append, measD]
            intro p1 hp1
            refine oMaxL1 cup_same ?_
            simp_arith! [cup_old hp1 cup_same, cLc, iSeq, lcL, wipe3, cYes, List.nil_append]
            intro p2 hp2
            refine oMaxL1 cup_same ?_
            exact ⟨C, ((sub_new hp).trans (sub_new hp1)).trans (sub_new hp2), hq⟩
        · rw [if_neg hn] at hq
          simp_arith! [hn]
          exact ⟨C, Sub.refl, hq⟩
      | [h, a, b], ho, hq =>
        simp_arith! [T.ds]
        simp only [okT, okTs, Bool.and_true, Bool.and_eq_true] at ho
        refine is_name_ok ?_ (fun z e => by rw [e] at ho; exact ok_len ho.1)
        simp only [meas] at hq
        by_cases hn : isName h = true
        · rw [if_pos hn] at hq
          simp_arith! [hn, cLc, iSeq, lcL, wipe3, cutD_tail, cYes, GG_call, e1, List.nil_append, List.cons_append]
          refine ih n a C _ _ ho.2.1 ?_
          refine ih n b C _ _ ho.2.2 ?_
          intro p hp
          refine noneIn2 cup_same ?_
          cases hm : meas r a with
          | none =>
            rw [hm] at hq
            simp_arith! [Option.isNone, Bool.true_or]
            exact ⟨C, sub_new hp, hq⟩
          | some q =>
            cases hk : meas r b with
            | none =>
              rw [hm, hk] at hq
              simp_arith! [Option.isNone, Bool.or_true]
              exact ⟨C, sub_new hp, hq⟩
            | some k =>
              rw [hm, hk] at hq
              simp_arith! [Option.isNone, Bool.or_self, cLc, iSeq, lcL, wipe3, cYes, List.nil_append, List.cons_append, measD]
              intro p1 hp1
              refine oMaxL2 cup_same ?_
              simp_arith! [cup_old hp1 cup_same, cLc, iSeq, lcL, wipe3, cYes, List.nil_append, List.cons_append]
              intro p2 hp2
              refine oMaxL2 cup_same ?_
              exact ⟨C, ((sub_new hp).trans (sub_new hp1)).trans (sub_new hp2), hq⟩
        · rw [if_neg hn] at hq
          simp_arith! [hn]
          exact ⟨C, Sub.refl, hq⟩
    | _ => simp_arith! [isNum, T.d, GG_kit, hr, decide_false]; exact ⟨C, Sub.refl, hq⟩

theorem is_value_ok {n : Nat} {t : T} {C : CH} {Q : Kv} {E : Kx} (ho : okT t = true) (hq : Q (.bl (meas 4 t).isSome) C) : W (n + 7) i_is_value [t.d] C Q E := by
  rw [W_is_value]
  unfold b_is_value
  simp_arith! [GG_call]
  refine measured_ok 4 n t C _ _ ho ?_
  cases h : meas 4 t with
  | none => rw [h] at hq; exact ⟨C, Sub.refl, hq⟩
  | some q => rw [h] at hq; exact ⟨C, Sub.refl, hq⟩
def isTup : T → Bool
  | .tup _ => true
  | _ => false
theorem is_term_ok {n : Nat} {t : T} {C : CH} {Q : Kv} {E : Kx} (ho : okT t = true) (hq : Q (.bl (isTup t && (meas 4 t).isSome)) C) : W (n + 8) i_is_term [t.d] C Q E := by
  rw [W_is_term]
  unfold b_is_term
  cases t with
  | tup xs =>
    simp_arith! [T.d, GG_kit, GG_call]
    refine is_value_ok (n := n) (t := .tup xs) ho ?_
    exact ⟨C, Sub.refl, hq⟩
  | _ => simp_arith! [T.d, GG_kit]; exact ⟨C, Sub.refl, hq⟩
theorem sizes_of_ok {n : Nat} {t : T} {q : Int × Int} {C : CH} {Q : Kv} {E : Kx} (ho : okT t = true) (hm : meas 4 t = some q) (hq : Q (.tup [.int q.1, .int q.2]) C) : W (n + 7) i_sizes_of [t.d] C Q E := by
  rw [W_sizes_of]
  unfold b_sizes_of
  simp_arith! [GG_call]
  refine measured_ok 4 n t C _ _ ho ?_
  rw [hm]
  simp_arith! [measD]
  exact ⟨C, Sub.refl, hq⟩
theorem highest_ok {n : Nat} {t : T} {q : Int × Int} {C : CH} {Q : Kv} {E : Kx} (ho : okT t = true) (hm : meas 4 t = some q) (hq : Q (.int q.2) C) : W (n + 8) i_highest [t.d] C Q E := by
  rw [W_highest]
  unfold b_highest
  simp_arith! [GG_call]
  refine sizes_of_ok (n := n) ho hm ?_
  simp_arith! []
  exact ⟨C, Sub.refl, hq⟩

/-! what the package says of conditions, where «called» is a number -/
def numOf : T → Int
  | .int i => i
  | _ => 0
/-- what has been called: all terms with items up to a level, or the terms of a list -/
inductive Kn where
  | num (k : Int) | lst (vs : List T)
instance : Coe Int Kn := ⟨Kn.num⟩
def inT (v : T) (vs : List T) : Bool := (T.pl vs).any fun z => PyData.eqv z v.p
def Kn.may (q : Int) (v : T) : Kn → Bool
  | .num k => decide (q ≤ k)
  | .lst vs => inT v vs
/-- the value that stands for it -/
inductive KnAt (C : CH) : Kn → D → Prop
  | num (k : Int) : KnAt C (.num k) (.int k)
  | lst {p : Addr} {vs : List T} : C p = some (.lst (T.ds vs)) → (∀ t ∈ vs, okT t = true ∧ t.p.depth ≤ 60) → KnAt C (.lst vs) (.ref p)
theorem KnAt.sub {C C' : CH} {k : Kn} {d : D} (h : KnAt C k d) (s : Sub C C') : KnAt C' k d := by
  cases h with
  | num k => exact .num k
  | lst h h2 => exact .lst (s _ _ h) h2
def mayUse (v : T) (level : Int) (called : Kn) : Bool := match meas 4 v with
  | none => false
  | some q => if isNum v = true then decide (numOf v ≤ level) else called.may q.2 v
theorem meas_depth : ∀ (r : Nat) (v : T) (q : Int × Int), meas r v = some q → v.p.depth ≤ r
  | r, .int i, q, _ => by simp [T.p, PyData.depth]
  | r + 1, .tup [h, a], q, e => by
    simp only [meas] at e
    split at e
    · rename_i hn
      obtain ⟨q', e', _⟩ := Option.map_eq_some_iff.mp e
      have := meas_depth r a q' e'
      cases h <;> first | (simp [isName] at hn; done) | (simp only [T.p, T.pl, PyData.depth, PyData.depthAll]; omega)
    · cases e
  | r + 1, .tup [h, a, b], q, e => by
    simp only [meas] at e
    split at e
    · rename_i hn
      cases ea : meas r a with
      | none => rw [ea] at e; simp [both2] at e
      | some qa =>
        cases eb : meas r b with
        | none => rw [ea, eb] at e; simp [both2] at e
        | some qb =>
          have := meas_depth r a qa ea
          have := meas_depth r b qb eb
          cases h <;> first | (simp [isName] at hn; done) | (simp only [T.p, T.pl, PyData.depth, PyData.depthAll]; omega)
    · cases e
  | 0, .tup _, _, e => by simp [meas] at e
  | _ + 1, .tup [], _, e => by simp [meas] at e
  | _ + 1, .tup [_], _, e => by simp [meas] at e
  | _ + 1, .tup (_ :: _ :: _ :: _ :: _), _, e => by simp [meas] at e
  | 0, .non, _, e => by simp [meas] at e
  | 0, .bl _, _, e => by simp [meas] at e
  | 0, .str _, _, e => by simp [meas] at e
  | _ + 1, .non, _, e => by simp [meas] at e
  | _ + 1, .bl _, _, e => by simp [meas] at e
  | _ + 1, .str _, _, e => by simp [meas] at e
mutual
theorem canLay_ok : ∀ t : T, okT t = true → t.p.canLay0 = true
  | .non, _ => rfl
  | .bl _, _ => rfl
  | .int _, _ => rfl
  | .str z, h => by
    simp only [okT, Bool.and_eq_true, decide_eq_true_eq] at h
    exact h.2
  | .tup xs, h => canLays_ok xs h
theorem canLays_ok : ∀ ts : List T, okTs ts = true → PyData.canLayAll0 (T.pl ts) = true
  | [], _ => rfl
  | t :: ts, h => by
    simp only [okTs, Bool.and_eq_true] at h
    simp only [T.pl, PyData.canLayAll0, Bool.and_eq_true]
    exact ⟨canLay_ok t h.1, canLays_ok ts h.2⟩
end
theorem depths_le {m : Nat} : ∀ {ts : List T}, (∀ t ∈ ts, okT t = true ∧ t.p.depth ≤ m) → PyData.canLayAll0 (T.pl ts) = true ∧ PyData.depthAll (T.pl ts) ≤ m
  | [], _ => ⟨rfl, Nat.zero_le _⟩
  | t :: ts, h => by
    obtain ⟨h1, h2⟩ := depths_le (ts := ts) fun x hx => h x (List.mem_cons_of_mem _ hx)
    obtain ⟨k1, k2⟩ := h t List.mem_cons_self
    constructor
    · simp only [T.pl, PyData.canLayAll0, Bool.and_eq_true]
      exact ⟨canLay_ok t k1, h1⟩
    · simp only [T.pl, PyData.depthAll]; omega
/-- value in called -/
theorem inD_ts {f : Bool → Bool} {C : CH} {p : Addr} {v : T} {vs : List T} {Q : Kv} (h : C p = some (.lst (T.ds vs))) (hv : ∀ t ∈ vs, okT t = true ∧ t.p.depth ≤ 60) (ho : okT v = true) (hd : v.p.depth ≤ 60) (q : Q (.bl (f (inT v vs))) C) : oInD f v.d (.ref p) C Q := by
  obtain ⟨h1, h2⟩ := depths_le hv
  refine ⟨p, v.p, _, T.pl vs, rfl, h, v.snap C, T.snaps C vs, ?_, ?_, q⟩
  · simp only [SeqAt.shaped, Bool.and_eq_true, decide_eq_true_eq]
    exact ⟨canLay_ok v ho, by omega⟩
  · simp only [SeqAt.shaped, Bool.and_eq_true, decide_eq_true_eq]
    exact ⟨h1, by show PyData.depthAll _ + 1 ≤ 64; omega⟩
theorem may_use_ok {n : Nat} {v : T} {level : Int} {called : Kn} {kd : D} {C : CH} {Q : Kv} {E : Kx} (hk : KnAt C called kd) (ho : okT v = true) (hq : Q (.bl (mayUse v level called)) C) : W (n + 9) i_may_use [v.d, .int level, kd] C Q E := by
  rw [W_may_use]
  unfold b_may_use
  simp_arith! [GG_call]
  refine is_value_ok (n := n + 1) ho ?_
  unfold mayUse at hq
  cases hm : meas 4 v with
  | none =>
    rw [hm] at hq
    simp_arith! [Option.isSome]
    exact ⟨C, Sub.refl, hq⟩
  | some q =>
    rw [hm] at hq
    simp_arith! [Option.isSome]
    refine is_number_ok (n := n + 7) ?_
    by_cases hn : isNum v = true
    · rw [hn] at hq ⊢
      simp_arith! []
      cases v with
      | int i => simp_arith! [T.d]; exact ⟨C, Sub.refl, hq⟩
      | _ => cases hn
    · simp only [Bool.not_eq_true] at hn
      rw [hn] at hq ⊢
      simp_arith! []
      cases hk with
      | num k =>
        refine is_number_ok (n := n + 7) (t := .int k) ?_
        simp_arith! [isNum]
        refine highest_ok (n := n) ho hm ?_
        simp_arith! []
        exact ⟨C, Sub.refl, hq⟩
      | lst hp hv =>
        refine is_number_ref (n := n + 7) hp ?_
        simp_arith! []
        have := meas_depth 4 v q hm
        exact inD_ts hp hv ho (by omega) ⟨C, Sub.refl, hq⟩
def mayCall (t : T) (level : Int) (called : Kn) : Bool := match t with
  | .tup (h :: xs) => (meas 4 (.tup (h :: xs))).isSome && xs.all fun v => mayUse v level called
  | _ => false
theorem okTs_mem : ∀ {xs : List T} {x : T}, okTs xs = true → x ∈ xs → okT x = true
  | y :: ys, x, h, m => by
    simp only [okTs, Bool.and_eq_true] at h
    rcases List.mem_cons.mp m with e | m
    · rw [e]; exact h.1
    · exact okTs_mem h.2 m
theorem may_call_ok {n : Nat} {t : T} {level : Int} {called : Kn} {kd : D} {C : CH} {Q : Kv} {E : Kx} (hk : KnAt C called kd) (ho : okT t = true) (hl : ∀ xs, t = .tup xs → xs.length ≤ sizeLine) (hq : Q (.bl (mayCall t level called)) C) : W (n + 10) i_may_call [t.d, .int level, kd] C Q E := by
  rw [W_may_call]
  unfold b_may_call
  simp_arith! [GG_call]
  refine is_term_ok (n := n + 1) ho ?_
  cases t with
  | tup xs =>
    cases xs with
    | nil => simp_arith! [isTup, meas, Option.isSome, Bool.true_and]; exact ⟨C, Sub.refl, hq⟩
    | cons h xs =>
      simp only [mayCall] at hq
      cases hm : meas 4 (.tup (h :: xs)) with
      | none =>
        rw [hm] at hq
        simp_arith! [isTup, Option.isSome, Bool.true_and]
        exact ⟨C, Sub.refl, hq⟩
      | some q =>
        rw [hm] at hq
        simp_arith! [isTup, Option.isSome, Bool.true_and, cLc, iSeq, T.d, T.ds, cutD_tail]
        have hl' := hl _ rfl
        simp only [List.length_cons] at hl'
        simp only [Option.isSome, Bool.true_and] at hq
        refine lcL_T (fun v => .bl (mayUse v level called)) trivial _ (fun d hd => ?_) (by omega) ?_
        · refine ⟨_, rfl, fun Q' hQ => ?_⟩
          simp_arith! [wipe3, GG_call]
          refine may_use_ok (n := n) hk ?_ hQ
          simp only [okT, okTs, Bool.and_eq_true] at ho
          exact okTs_mem ho.2 hd
        · intro p hp
          refine oAll_new (bs := xs.map fun v => mayUse v level called) (by rw [List.map_map]; rfl) ⟨C, sub_new hp, ?_⟩
          simpa [List.all_map, Function.comp_def] using hq
  | _ => simp_arith! [isTup, Bool.false_and]; exact ⟨C, Sub.refl, hq⟩

def shaped : T → Bool
  | .tup [.str w, .tup ps] => (decide (w = ("and" : Str)) || decide (w = ("or" : Str))) && decide (1 < ps.length)
  | .tup [.str w, _, y] => !(decide (w = ("and" : Str)) || decide (w = ("or" : Str))) && (if w = ("ask" : Str) then (match y with | .bl _ => true | _ => false) else decide (w = ("any" : Str)) || decide (w = ("all" : Str)))
  | _ => false
theorem shaped_cases {t : T} (h : shaped t = true) : (∃ w ps, t = .tup [.str w, .tup ps] ∧ (decide (w = ("and" : Str)) || decide (w = ("or" : Str))) = true ∧ 1 < ps.length) ∨
    ∃ w x y, t = .tup [.str w, x, y] ∧ (decide (w = ("and" : Str)) || decide (w = ("or" : Str))) = false ∧ ((w = ("ask" : Str) ∧ ∃ b, y = .bl b) ∨ (w ≠ ("ask" : Str) ∧ (w = ("any" : Str) ∨ w = ("all" : Str)))) := by
  unfold shaped at h
  split at h
  · rename_i w ps
    simp only [Bool.and_eq_true, decide_eq_true_eq] at h
    exact .inl ⟨w, ps, rfl, h.1, h.2⟩
  · rename_i w x y
    simp only [Bool.and_eq_true, Bool.not_eq_true'] at h
    refine .inr ⟨w, x, y, rfl, h.1, ?_⟩
    have h2 := h.2
    by_cases ha : w = ("ask" : Str)
    · rw [if_pos ha] at h2
      left
      refine ⟨ha, ?_⟩
      cases y with
      | bl b => exact ⟨b, rfl⟩
      | _ => cases h2
    · rw [if_neg ha] at h2
      right
      exact ⟨ha, by simpa using h2⟩
  · cases h
theorem shaped_long {w : Str} {a b c : T} {l : List T} : shaped (.tup (.str w :: a :: b :: c :: l)) = false := by cases a <;> rfl
theorem ok_str {z : Str} (h : okT (.str z) = true) : PyData.strOk z = true := by
  simp only [okT, Bool.and_eq_true, decide_eq_true_eq] at h
  exact h.2
theorem so_ask : PyData.strOk (Str.ofString "ask") = true := by decide +kernel
theorem is_shaped_ok {n : Nat} {t : T} {C : CH} {Q : Kv} {E : Kx} (ho : okT t = true) (hq : Q (.bl (shaped t)) C) : W (n + 1) i_is_shaped [t.d] C Q E := by
  rw [W_is_shaped]
  unfold b_is_shaped
  cases t with
  | tup xs =>
    match xs, ho, hq with
    | [], ho, hq => simp_arith! [T.d, T.ds, GG_kit]; exact ⟨C, Sub.refl, hq⟩
    | [x], ho, hq => simp_arith! [T.d, T.ds, GG_kit]; exact ⟨C, Sub.refl, by cases x <;> exact hq⟩
    | x :: a :: r, ho, hq =>
      have e2 : (((r.length + 1 + 1 : Nat) : Int) < 2) = False := by simp; omega
      cases x with
      | str w =>
        have hw : PyData.strOk w = true := by
          simp only [okT, okTs, Bool.and_eq_true] at ho
          exact ho.1.2
        by_cases h1 : w = Str.ofString "and" ∨ w = Str.ofString "or"
        · have h1' : (decide (w = Str.ofString "and") || decide (w = Str.ofString "or")) = true := by simpa using h1
          match r, e2, ho, hq with
          | [], e2, ho, hq =>
            cases a with
            | tup ps =>
              simp_arith! [T.d, T.ds, GG_kit, e2, T.ds_length, h1']
              simp only [shaped, h1', Bool.true_and] at hq
              refine ⟨C, Sub.refl, ?_⟩
              have e3 : ((1 : Int) < (ps.length : Int)) = (1 < ps.length) := by simp; omega
              simp only [e3]
              exact hq
            | _ => simp_arith! [T.d, T.ds, GG_kit, e2, T.ds_length, h1']; exact ⟨C, Sub.refl, hq⟩
          | b :: l, e2, ho, hq =>
            have e3 : (((l.length + 1 + 1 + 1 : Nat) : Int) = 2) = False := by simp; omega
            simp_arith! [T.d, T.ds, GG_kit, e2, T.ds_length, h1', e3, decide_false]
            refine ⟨C, Sub.refl, ?_⟩
            cases l with
            | nil => simp only [shaped, h1', Bool.not_true, Bool.false_and] at hq; exact hq
            | cons c l => rw [shaped_long] at hq; exact hq
        · have h1' : (decide (w = Str.ofString "and") || decide (w = Str.ofString "or")) = false := by simpa using h1
          simp_arith! [T.d, T.ds, GG_kit, e2, T.ds_length, h1', oEqN_strI hw so_ask]
          by_cases h2 : w = Str.ofString "ask"
          · match r, e2, ho, hq with
            | [], e2, ho, hq =>
              simp_arith! [h2, decide_true]
              refine ⟨C, Sub.refl, ?_⟩
              cases a <;> first | exact hq | (simp only [shaped, h1', Bool.false_and] at hq; exact hq)
            | [b], e2, ho, hq =>
              simp_arith! [h2, decide_true, T.ds]
              simp only [shaped, h1', Bool.not_false, Bool.true_and] at hq
              cases b <;> simp_arith! [T.d, GG_kit] <;> exact ⟨C, Sub.refl, by simpa [h2] using hq⟩
            | b :: c :: l, e2, ho, hq =>
              have e3 : (((l.length + 1 + 1 + 1 + 1 : Nat) : Int) = 3) = False := by simp; omega
              simp_arith! [h2, decide_true, e3]
              rw [shaped_long] at hq
              exact ⟨C, Sub.refl, hq⟩
          · by_cases h3 : w = Str.ofString "any" ∨ w = Str.ofString "all"
            · have h3' : (decide (w = Str.ofString "any") || decide (w = Str.ofString "all")) = true := by simpa using h3
              simp_arith! [h2, decide_false, h3']
              refine ⟨C, Sub.refl, ?_⟩
              match r, e2, ho, hq with
              | [], e2, ho, hq => cases a <;> first | exact hq | (simp only [shaped, h1', Bool.false_and] at hq; exact hq)
              | [b], e2, ho, hq =>
                simp only [shaped, h1', Bool.not_false, Bool.true_and] at hq
                rw [if_neg h2, h3'] at hq
                exact hq
              | b :: c :: l, e2, ho, hq =>
                have e3 : (((l.length + 1 + 1 + 1 + 1 : Nat) : Int) = 3) = False := by simp; omega
                simp only [List.length_cons, e3, decide_false]
                rw [shaped_long] at hq
                exact hq
            · have h3' : (decide (w = Str.ofString "any") || decide (w = Str.ofString "all")) = false := by simpa using h3
              simp_arith! [h2, decide_false, h3']
              refine ⟨C, Sub.refl, ?_⟩
              match r, e2, ho, hq with
              | [], e2, ho, hq => cases a <;> first | exact hq | (simp only [shaped, h1', Bool.false_and] at hq; exact hq)
              | [b], e2, ho, hq =>
                simp only [shaped, h1', Bool.not_false, Bool.true_and] at hq
                rw [if_neg h2, h3'] at hq
                exact hq
              | b :: c :: l, e2, ho, hq => rw [shaped_long] at hq; exact hq
      | _ => simp_arith! [T.d, T.ds, GG_kit, e2, T.ds_length]; exact ⟨C, Sub.refl, by cases r <;> exact hq⟩
  | _ => simp_arith! [T.d, GG_kit]; exact ⟨C, Sub.refl, hq⟩

/-! the work list of is_condition, its top first -/
mutual
def size : T → Nat
  | .tup xs => 1 + sizes xs
  | _ => 1
def sizes : List T → Nat
  | [] => 0
  | x :: xs => size x + sizes xs
end
abbrev Job := T × Int × Int
def condStep (j : Job) (count : Int) (known : Kn) : Option (List Job × Int) :=
  if j.2.2 > 100 ∨ j.2.1 > 3 ∨ shaped j.1 = false then none else match j.1 with
  | .tup [.str _, .tup ps] => some (ps.reverse.map fun p => (p, j.2.1, j.2.2 + 1), count)
  | .tup [.str w, x, y] => if mayCall x j.2.1 known = false then none else if w = ("ask" : Str) then some ([], count + 1) else some ([(y, j.2.1 + 1, j.2.2 + 1)], count)
  | _ => none
def condLoop : Nat → List Job → Int → Kn → Option Bool
  | _, [], _, _ => some true
  | 0, _ :: _, _, _ => none
  | f + 1, j :: st, count, known => match condStep j count known with
    | none => some false
    | some r => if r.2 > 400 then some false else condLoop f (r.1 ++ st) r.2 known
def jobD (j : Job) : D := .tup [j.1.d, .int j.2.1, .int j.2.2]
def jobP (j : Job) : PyData := .tuple [j.1.p, .int j.2.1, .int j.2.2]
theorem jobSnap (C : CH) (j : Job) : Snap C (jobD j) (jobP j) := .tup (.cons (j.1.snap C) (.cons (.int _) (.cons (.int _) .nil)))
theorem jobSnaps (C : CH) : ∀ js : List Job, SnapL C (js.map jobD) (js.map jobP)
  | [] => .nil
  | j :: js => .cons (jobSnap C j) (jobSnaps C js)
def okJob (j : Job) : Prop := okT j.1 = true ∧ j.1.p.depth ≤ 340
theorem deep_jobs : ∀ js : List Job, (∀ j ∈ js, okJob j) → PyData.canLayAll0 (js.map jobP) = true ∧ PyData.depthAll (js.map jobP) ≤ 341
  | [], _ => ⟨rfl, by decide⟩
  | j :: js, h => by
    obtain ⟨h1, h2⟩ := deep_jobs js fun j' hj => h j' (List.mem_cons_of_mem _ hj)
    obtain ⟨o1, o2⟩ := h j List.mem_cons_self
    constructor
    · simp only [List.map_cons, PyData.canLayAll0, Bool.and_eq_true]
      refine ⟨?_, h1⟩
      simp only [jobP, PyData.canLay0, PyData.canLayAll0, Bool.and_true]
      exact canLay_ok _ o1
    · simp only [List.map_cons, PyData.depthAll]
      have e : (jobP j).depth ≤ 341 := by
        simp only [jobP, PyData.depth, PyData.depthAll]
        omega
      omega
/-- line != [] -/
theorem line_ne {C : CH} {p r : Addr} {js : List Job} {Q : Kv} (hj : ∀ j ∈ js, okJob j) (h : C p = some (.lst (js.map jobD))) (h2 : C r = some (.lst [])) (q : Q (.bl (!js.isEmpty)) C) : oEqN not (.ref p) (.ref r) C Q := by
  obtain ⟨d1, d2⟩ := deep_jobs js hj
  refine ⟨.list (js.map jobP), .list [], .lst h (jobSnaps C js), .lst h2 .nil, ?_, by decide, ?_⟩
  · have e : (PyData.list (js.map jobP)).depth ≤ 350 := by
      show PyData.depthAll _ + 1 ≤ 350
      omega
    unfold deepOk
    rw [decide_eq_true e, Bool.and_true]
    exact d1
  · cases js with
    | nil => exact q
    | cons j js => exact q
def condT : CE := .cmp .ne (.var 3) (.lst [])
def condB : List CS := match b_is_condition with
  | [_, _, _, .whileS _ b, _] => b
  | _ => []
theorem size_pos (t : T) : 1 ≤ size t := by
  cases t <;> simp [size]
theorem sizes_len : ∀ ts : List T, ts.length ≤ sizes ts
  | [] => Nat.le_refl _
  | t :: ts => by
    have := size_pos t
    have := sizes_len ts
    simp only [List.length_cons, sizes]
    omega
theorem cond_body {n : Nat} {E : Kx} {C0 : CH} {p : Addr} {known : Kn} {kd : L3.D} {count : Int} {D : EndsC} {j : Job} {st : List Job} {x0 x1 x2 x6 x7 x8 x9 : Option L3.D} {C : CH} (hk : KnAt C0 known kd) (hp : C0 p = none) (oj : okJob j) (hs : Sub C0 C) (hc : C p = some (.lst ((j :: st).reverse.map jobD))) (hl : st.length + size j.1 + 2 ≤ sizeLine)
    (hF : (∀ r, condStep j count known = some r → r.2 > 400) → ∀ C', Sub C0 C' → D.rt (.bl false) C')
    (hK : ∀ r, condStep j count known = some r → ¬ r.2 > 400 → ∀ y6 y7 y8 C', Sub C0 C' → C' p = some (.lst ((r.1 ++ st).reverse.map jobD)) → D.nx [x0, x1, x2, some (.ref p), some (.int r.2), some kd, y6, y7, y8, x9] C') :
    rdSs (GG (n + 10)) (exN E) condB D [x0, x1, x2, some (.ref p), some (.int count), some kd, x6, x7, x8, x9] C := by
  have e1 : ((j :: st).reverse.map jobD) = st.reverse.map jobD ++ [jobD j] := by simp
  have e2 : ((j :: st).reverse.map jobD)[((j :: st).reverse.map jobD).length - 1]? = some (jobD j) := by rw [e1]; simp
  have e3 : ((j :: st).reverse.map jobD).dropLast = st.reverse.map jobD := by rw [e1]; simp
  simp only [condB, b_is_condition]
  rw [rdSs_cons]
  simp_arith []
  refine ⟨isLst_of hc, ?_⟩
  refine ⟨p, _, jobD j, rfl, rfl, hc, e2, ?_⟩
  rw [e3]
  obtain ⟨t, at_, nest⟩ := j
  simp_arith [jobD]
  have hs1 : Sub C0 (cup C p (.lst (st.reverse.map jobD))) := fun a o h => by
    rw [cup_ne (fun z => by rw [z, hp] at h; cases h)]
    exact hs a o h
  generalize hC1 : cup C p (.lst (st.reverse.map jobD)) = C1 at hs1
  have hc1 : C1 p = some (.lst (st.reverse.map jobD)) := by rw [← hC1]; exact cup_same
  rw [rdSs_cons]
  simp_arith [GG_call]
  by_cases hsh : nest > 100 ∨ at_ > 3 ∨ shaped t = false
  · have hf : ∀ C', Sub C0 C' → D.rt (.bl false) C' := hF fun r h => by
      simp only [condStep] at h
      rw [if_pos hsh] at h
      cases h
    by_cases h1 : 100 < nest
    · rw [if_pos (decide_eq_true h1), rdSs_cons]
      simp_arith []
      exact hf _ hs1
    · rw [if_neg (by simp [h1])]
      by_cases h2 : 3 < at_
      · rw [if_pos (decide_eq_true h2), rdSs_cons]
        simp_arith []
        exact hf _ hs1
      · rw [if_neg (by simp [h2])]
        have h3 : shaped t = false := by
          rcases hsh with h | h | h
          · exact absurd h h1
          · exact absurd h h2
          · exact h
        refine is_shaped_ok (n := n + 9) oj.1 ?_
        rw [h3]
        simp_arith []
        rw [rdSs_cons]
        simp_arith []
        exact hf _ hs1
  · have h1 : ¬ 100 < nest := fun h => hsh (.inl h)
    have h2 : ¬ 3 < at_ := fun h => hsh (.inr (.inl h))
    have h3 : shaped t = true := by
      cases h : shaped t with
      | true => rfl
      | false => exact absurd (.inr (.inr h)) hsh
    rw [if_neg (by simp [h1]), if_neg (by simp [h2])]
    refine is_shaped_ok (n := n + 9) oj.1 ?_
    rw [h3]
    simp_arith []
    rw [rdSs_cons]
    clear hC1
    obtain ⟨o1, o2⟩ := oj
    rcases shaped_cases h3 with ⟨w, ps, e, hw, hps⟩ | ⟨w, x, y, e, hw, hwy⟩
    · subst e
      simp only [size, sizes] at hl
      have hlen := sizes_len ps
      have hps1 : ps.length ≤ sizeLine := by omega
      have hcs : condStep (.tup [.str w, .tup ps], at_, nest) count known = some (ps.reverse.map fun p => (p, at_, nest + 1), count) := by
        unfold condStep
        exact if_neg hsh
      simp_arith [T.d, T.ds, hw]
      rw [rdSs_cons]
      simp_arith []
      refine ⟨isLst_of hc1, ?_⟩
      simp_arith! [cLc, iSeq]
      refine lcL_T (fun q => jobD (q, at_, nest + 1)) trivial ps (fun q _ => ⟨_, rfl, fun Q' hQ => ?_⟩) hps1 ?_
      · simp_arith! [wipe3]
        exact hQ
      · intro q hq
        refine ⟨p, _, _, _, rfl, rfl, cup_old hq hc1, .inr ⟨q, rfl, cup_same⟩, by simp only [List.length_map, List.length_reverse]; omega, ?_⟩
        have hs2 : Sub C0 (cup (cup C1 q (.lst (ps.map fun q => jobD (q, at_, nest + 1)))) p (.lst (st.reverse.map jobD ++ ps.map fun q => jobD (q, at_, nest + 1)))) := sub_at hp (hs1.trans (sub_new hq))
        dsimp only
        by_cases hc4 : 400 < count
        · rw [if_pos (decide_eq_true hc4)]
          exact hF (fun r h => by rw [hcs] at h; cases h; exact hc4) _ hs2
        · rw [if_neg (by simp [hc4])]
          refine hK _ hcs hc4 _ _ _ _ hs2 ?_
          rw [cup_same]
          simp [List.map_reverse, Function.comp_def]
    · subst e
      simp only [size, sizes] at hl
      have hx : okT x = true ∧ okT y = true := by
        simp only [okT, okTs, Bool.and_eq_true, Bool.and_true] at o1
        exact o1.2
      have hw1 : PyData.strOk w = true := by
        simp only [okT, okTs, Bool.and_eq_true, Bool.and_true] at o1
        exact o1.1.2
      simp_arith [T.d, T.ds, hw]
      rw [rdSs_cons]
      simp_arith [GG_call]
      refine may_call_ok (n := n) (hk.sub hs1) hx.1 (fun xs e => by subst e; have := sizes_len xs; simp only [size] at hl; omega) ?_
      cases hmc : mayCall x at_ known with
      | false =>
        have hcs : condStep (.tup [.str w, x, y], at_, nest) count known = none := by
          unfold condStep
          refine (if_neg hsh).trans ?_
          cases x <;> exact if_pos hmc
        simp_arith []
        rw [rdSs_cons]
        simp_arith []
        exact hF (fun r h => by rw [hcs] at h; cases h) _ hs1
      | true =>
        simp_arith []
        rw [rdSs_cons]
        simp_arith [oEqN_strI hw1 so_ask]
        have hcs : condStep (.tup [.str w, x, y], at_, nest) count known = if w = Str.ofString "ask" then some ([], count + 1) else some ([(y, at_ + 1, nest + 1)], count) := by
          unfold condStep
          refine (if_neg hsh).trans ?_
          cases x <;> exact if_neg (by rw [hmc]; decide)
        rcases hwy with ⟨ha, _⟩ | ⟨ha, _⟩
        · rw [if_pos ha] at hcs
          rw [if_pos (decide_eq_true ha)]
          simp_arith! []
          by_cases hc4 : 400 < count + 1
          · rw [if_pos (decide_eq_true hc4)]
            exact hF (fun r h => by rw [hcs] at h; cases h; exact hc4) _ hs1
          · rw [if_neg (by simp [hc4])]
            exact hK _ hcs hc4 _ _ _ _ hs1 hc1
        · rw [if_neg ha] at hcs
          rw [if_neg (by simp [ha])]
          simp_arith! []
          refine ⟨isLst_of hc1, p, _, _, rfl, rfl, hc1, by rw [List.length_map, List.length_reverse]; omega, ?_⟩
          have hs2 : Sub C0 (cup C1 p (.lst (st.reverse.map jobD ++ [jobD (y, at_ + 1, nest + 1)]))) := sub_at hp hs1
          dsimp only
          by_cases hc4 : 400 < count
          · rw [if_pos (decide_eq_true hc4)]
            exact hF (fun r h => by rw [hcs] at h; cases h; exact hc4) _ hs2
          · rw [if_neg (by simp [hc4])]
            refine hK _ hcs hc4 _ _ _ _ hs2 ?_
            rw [cup_same]
            simp [jobD]
def wt : List Job → Nat
  | [] => 0
  | j :: js => size j.1 + wt js
theorem wt_len : ∀ js : List Job, js.length ≤ wt js
  | [] => Nat.le_refl _
  | j :: js => by
    have := size_pos j.1
    have := wt_len js
    simp only [List.length_cons, wt]
    omega
theorem wt_append : ∀ (a b : List Job), wt (a ++ b) = wt a + wt b
  | [], b => by simp [wt]
  | j :: a, b => by simp only [List.cons_append, wt, wt_append a b]; omega
theorem wt_map (at_ nest : Int) : ∀ ps : List T, wt (ps.map fun p => (p, at_, nest)) = sizes ps
  | [] => rfl
  | p :: ps => by simp only [List.map_cons, wt, sizes, wt_map at_ nest ps]
theorem sizes_append : ∀ (a b : List T), sizes (a ++ b) = sizes a + sizes b
  | [], b => by simp [sizes]
  | j :: a, b => by simp only [List.cons_append, sizes, sizes_append a b]; omega
theorem sizes_reverse : ∀ ps : List T, sizes ps.reverse = sizes ps
  | [] => rfl
  | p :: ps => by simp only [List.reverse_cons, sizes_append, sizes, sizes_reverse ps]; omega
theorem depth_mem : ∀ {ps : List T} {q : T}, q ∈ ps → q.p.depth ≤ PyData.depthAll (T.pl ps)
  | p :: ps, q, h => by
    simp only [T.pl, PyData.depthAll]
    rcases List.mem_cons.mp h with e | h
    · rw [e]; omega
    · have := depth_mem h; omega
theorem condStep_wt {j : Job} {count : Int} {known : Kn} {r : List Job × Int} (h : condStep j count known = some r) : wt r.1 < size j.1 ∧ (okJob j → ∀ k ∈ r.1, okJob k) := by
  obtain ⟨t, at_, nest⟩ := j
  unfold condStep at h
  split at h
  · cases h
  · split at h
    · rename_i w ps e
      simp only at e
      subst e
      cases h
      refine ⟨?_, fun ⟨o1, o2⟩ k hk => ?_⟩
      · show wt (List.map (fun p => (p, at_, nest + 1)) ps.reverse) < _
        rw [wt_map, sizes_reverse]
        simp only [size, sizes]
        omega
      · obtain ⟨q, hq, rfl⟩ := List.mem_map.mp hk
        simp only [okT, okTs, Bool.and_eq_true, Bool.and_true] at o1
        have hq' := List.mem_reverse.mp hq
        refine ⟨okTs_mem o1.2 hq', ?_⟩
        have := depth_mem hq'
        simp only [T.p, T.pl, PyData.depth, PyData.depthAll] at o2
        show q.p.depth ≤ 340
        omega
    · rename_i w x y e
      simp only at e
      subst e
      split at h
      · cases h
      · split at h
        · cases h
          refine ⟨?_, fun _ k hk => nomatch hk⟩
          simp only [wt, size, sizes]
          omega
        · cases h
          refine ⟨?_, fun ⟨o1, o2⟩ k hk => ?_⟩
          · simp only [wt, size, sizes]
            have := size_pos x
            omega
          · cases List.mem_singleton.mp hk
            simp only [okT, okTs, Bool.and_eq_true, Bool.and_true] at o1
            simp only [T.p, T.pl, PyData.depth, PyData.depthAll] at o2
            refine ⟨o1.2.2, ?_⟩
            show y.p.depth ≤ 340
            omega
    · cases h
theorem cond_loop {n : Nat} {E : Kx} {C0 : CH} {p : Addr} {known : Kn} {kd : L3.D} {Dd : EndsC} (hk : KnAt C0 known kd) (hp : C0 p = none) {b : Bool} (hT : b = true → ∀ σ C', Sub C0 C' → Dd.nx σ C') (hF : b = false → ∀ C', Sub C0 C' → Dd.rt (.bl false) C') :
    ∀ (fuel : Nat) (js : List Job) (count : Int) (x0 x1 x2 x6 x7 x8 x9 : Option L3.D) (C : CH), condLoop fuel js count known = some b → (∀ j ∈ js, okJob j) → wt js + 2 ≤ sizeLine → Sub C0 C → C p = some (.lst (js.reverse.map jobD)) →
      whileN (rdT (GG (n + 10)) (exN E) condT) (rdSs (GG (n + 10)) (exN E) condB) Dd (fuel + 1) [x0, x1, x2, some (.ref p), some (.int count), some kd, x6, x7, x8, x9] C := by
  intro fuel
  induction fuel with
  | zero =>
    intro js count x0 x1 x2 x6 x7 x8 x9 C hb ok hw hs hc
    cases js with
    | cons j js => cases hb
    | nil =>
      unfold whileN condT
      simp_arith! [oLst]
      intro r hr
      refine line_ne (js := []) (fun _ h => nomatch h) (cup_old hr hc) cup_same ?_
      simp_arith! [List.isEmpty]
      cases hb
      exact hT rfl _ _ (hs.trans (sub_new hr))
  | succ fuel ih =>
    intro js count x0 x1 x2 x6 x7 x8 x9 C hb ok hw hs hc
    cases js with
    | nil =>
      unfold whileN condT
      simp_arith! [oLst]
      intro r hr
      refine line_ne (js := []) (fun _ h => nomatch h) (cup_old hr hc) cup_same ?_
      simp_arith! [List.isEmpty]
      cases hb
      exact hT rfl _ _ (hs.trans (sub_new hr))
    | cons j st =>
      have ok' : ∀ j' ∈ (j :: st).reverse, okJob j' := fun j' h => ok j' (List.mem_reverse.mp h)
      have oj := ok j List.mem_cons_self
      have hst : st.length + size j.1 + 2 ≤ sizeLine := by
        have := wt_len st
        simp only [wt] at hw
        omega
      simp only [condLoop] at hb
      unfold whileN
      conv => rw [condT]
      simp_arith! [oLst]
      intro r hr
      refine line_ne ok' (cup_old hr hc) cup_same ?_
      have he : ((j :: st).reverse).isEmpty = false := by simp
      rw [he]
      simp_arith! []
      refine cond_body (st := st) hk hp oj (hs.trans (sub_new hr)) (cup_old hr hc) hst ?_ ?_
      · intro h C' hs'
        refine hF ?_ _ hs'
        cases hcs : condStep j count known with
        | none => rw [hcs] at hb; cases hb; rfl
        | some r => rw [hcs] at hb; simp only at hb; rw [if_pos (h r hcs)] at hb; cases hb; rfl
      · intro r hcs h4 y6 y7 y8 C' hs' hc'
        rw [hcs] at hb
        simp only at hb
        rw [if_neg h4] at hb
        obtain ⟨w1, w2⟩ := condStep_wt hcs
        refine ih _ _ _ _ _ _ _ _ _ _ hb (fun k hk => ?_) ?_ hs' hc'
        · rcases List.mem_append.mp hk with hk | hk
          · exact w2 oj k hk
          · exact ok k (List.mem_cons_of_mem _ hk)
        · rw [wt_append]
          simp only [wt] at hw
          omega
theorem is_condition_ok {n fuel : Nat} {t : T} {level : Int} {b : Bool} {C : CH} {Q : Kv} {E : Kx} (ho : okT t = true) (hd : t.p.depth ≤ 340) (hs : size t ≤ 1000000) (hb : condLoop fuel [(t, level, 1)] 0 level = some b) (hq : Q (.bl b) C) : W (n + 11) i_is_condition [t.d, .int level, .non] C Q E := by
  rw [W_is_condition]
  unfold b_is_condition
  rw [rdSs_cons]
  simp_arith [oLst]
  intro p hp
  rw [rdSs_cons]
  simp_arith []
  rw [rdSs_cons]
  simp_arith []
  rw [rdSs_cons, rdS_while]
  refine ⟨fuel + 1, ?_⟩
  refine cond_loop (b := b) (KnAt.num level) hp (fun e σ C' hs => ?_) (fun e C' hs => ?_) fuel [(t, level, 1)] 0 _ _ _ _ _ _ _ _ hb (fun j hj => ?_) (by simp only [wt]; have : 2000000 ≤ sizeLine := (by decide); omega) (sub_new hp) cup_same
  · simp_arith! []
    exact ⟨C, hs, by rw [← e]; exact hq⟩
  · exact ⟨C, hs, by rw [← e]; exact hq⟩
  · cases List.mem_singleton.mp hj
    exact ⟨ho, hd⟩
theorem is_condition_list {n fuel : Nat} {t : T} {level : Int} {vs : List T} {pc : Addr} {b : Bool} {C : CH} {Q : Kv} {E : Kx} (hk : KnAt C (.lst vs) (.ref pc)) (ho : okT t = true) (hd : t.p.depth ≤ 340) (hs : size t ≤ 1000000) (hb : condLoop fuel [(t, level, 1)] 0 (.lst vs) = some b) (hq : Q (.bl b) C) : W (n + 11) i_is_condition [t.d, .int level, .ref pc] C Q E := by
  rw [W_is_condition]
  unfold b_is_condition
  rw [rdSs_cons]
  simp_arith [oLst]
  intro p hp
  rw [rdSs_cons]
  simp_arith []
  rw [rdSs_cons]
  simp_arith []
  rw [rdSs_cons, rdS_while]
  refine ⟨fuel + 1, ?_⟩
  refine cond_loop (b := b) hk hp (fun e σ C' hs => ?_) (fun e C' hs => ?_) fuel [(t, level, 1)] 0 _ _ _ _ _ _ _ _ hb (fun j hj => ?_) (by simp only [wt]; have : 2000000 ≤ sizeLine := (by decide); omega) (sub_new hp) cup_same
  · simp_arith! []
    exact ⟨C, hs, by rw [← e]; exact hq⟩
  · exact ⟨C, hs, by rw [← e]; exact hq⟩
  · cases List.mem_singleton.mp hj
    exact ⟨ho, hd⟩

/-! conditions as trees -/
inductive Cn where
  | ask (t : T) (w : Bool) | con (a : Bool) (ps : List Cn) | qu (a : Bool) (t : T) (c : Cn)
def cw (a : Bool) : Str := if a then "and" else "or"
def qw (a : Bool) : Str := if a then "any" else "all"
mutual
def Cn.t : Cn → T
  | .ask t w => .tup [.str "ask", t, .bl w]
  | .con a ps => .tup [.str (cw a), .tup (Cn.ts ps)]
  | .qu a t c => .tup [.str (qw a), t, c.t]
def Cn.ts : List Cn → List T
  | [] => []
  | c :: cs => c.t :: Cn.ts cs
end
theorem Cn.ts_map : ∀ xs : List Cn, Cn.ts xs = xs.map Cn.t
  | [] => rfl
  | x :: xs => by rw [Cn.ts, Cn.ts_map xs, List.map_cons]
def flat1 (a : Bool) : Cn → List Cn
  | .con b qs => if b = a then qs else [.con b qs]
  | c => [c]
def flatC (a : Bool) (ps : List Cn) : List Cn := ps.flatMap (flat1 a)
mutual
def settledC : Cn → Bool → Cn
  | .ask t w, b => .ask t (w == b)
  | .con a ps, b => .con (a == b) (flatC (a == b) (settledCs ps b))
  | .qu a t c, b => .qu (a == b) t (settledC c b)
def settledCs : List Cn → Bool → List Cn
  | [], _ => []
  | c :: cs, b => settledC c b :: settledCs cs b
end
theorem settledCs_map (b : Bool) : ∀ cs : List Cn, settledCs cs b = cs.map fun c => settledC c b
  | [] => rfl
  | c :: cs => by rw [settledCs, settledCs_map b cs, List.map_cons]
mutual
def csize : Cn → Nat
  | .ask _ _ => 1
  | .con _ ps => 1 + csizes ps
  | .qu _ _ c => 1 + csize c
def csizes : List Cn → Nat
  | [] => 0
  | c :: cs => csize c + csizes cs
end
mutual
def ht : Cn → Nat
  | .ask _ _ => 1
  | .con _ ps => 1 + hts ps
  | .qu _ _ c => 1 + ht c
def hts : List Cn → Nat
  | [] => 0
  | c :: cs => max (ht c) (hts cs)
end
theorem csize_pos (c : Cn) : 1 ≤ csize c := by cases c <;> simp [csize]
theorem csizes_len : ∀ cs : List Cn, cs.length ≤ csizes cs
  | [] => Nat.le_refl _
  | c :: cs => by
    have := csize_pos c
    have := csizes_len cs
    simp only [List.length_cons, csizes]
    omega
theorem csizes_append : ∀ (a b : List Cn), csizes (a ++ b) = csizes a + csizes b
  | [], b => by simp [csizes]
  | j :: a, b => by simp only [List.cons_append, csizes, csizes_append a b]; omega
theorem flat1_size (a : Bool) (c : Cn) : csizes (flat1 a c) ≤ csize c := by
  cases c with
  | con b qs =>
    by_cases h : b = a
    · simp only [flat1, h, if_true, csize]; omega
    · simp [flat1, h, csizes, csize]
  | _ => simp [flat1, csizes]
theorem flatC_size (a : Bool) : ∀ ps : List Cn, csizes (flatC a ps) ≤ csizes ps
  | [] => Nat.le_refl _
  | p :: ps => by
    have h1 := flatC_size a ps
    have h2 := flat1_size a p
    simp only [flatC, List.flatMap_cons, csizes_append, csizes] at *
    omega
mutual
theorem settled_size (b : Bool) : ∀ c : Cn, csize (settledC c b) ≤ csize c
  | .ask _ _ => Nat.le_refl _
  | .con a ps => by
    have h1 := settleds_size b ps
    have h2 := flatC_size (a == b) (settledCs ps b)
    simp only [settledC, csize]
    omega
  | .qu a t c => by
    have h1 := settled_size b c
    simp only [settledC, csize]
    omega
theorem settleds_size (b : Bool) : ∀ cs : List Cn, csizes (settledCs cs b) ≤ csizes cs
  | [] => Nat.le_refl _
  | c :: cs => by
    have h1 := settled_size b c
    have h2 := settleds_size b cs
    simp only [settledCs, csizes]
    omega
end
theorem so_cw (a : Bool) : PyData.strOk (cw a) = true := by cases a <;> decide +kernel
theorem so_qw (a : Bool) : PyData.strOk (qw a) = true := by cases a <;> decide +kernel
def headW : Cn → Str
  | .ask _ _ => "ask"
  | .con a _ => cw a
  | .qu a _ _ => qw a
theorem so_head (c : Cn) : PyData.strOk (headW c) = true := by
  cases c with
  | ask _ _ => exact so_ask
  | con a _ => exact so_cw a
  | qu a _ _ => exact so_qw a
def conKvs : List (L2.Key × D) := [(.inr "and", .str "or"), (.inr "or", .str "and"), (.inr "any", .str "all"), (.inr "all", .str "any")]
theorem con_dic : dicOf conKvs = conKvs := rfl
theorem con_val_cw (a : Bool) : valC conKvs (.inr (cw a)) = some (.str (cw (!a))) := by cases a <;> rfl
theorem con_val_qw (a : Bool) : valC conKvs (.inr (qw a)) = some (.str (qw (!a))) := by cases a <;> rfl
theorem contrary_cw {n : Nat} {a : Bool} {C : CH} {Q : Kv} {E : Kx} (hq : Q (.str (cw (!a))) C) : W (n + 1) i_contrary [.str (cw a)] C Q E := by
  rw [W_contrary]
  unfold b_contrary
  simp_arith! [cDic, cPrs]
  refine ⟨conKvs, rfl, rfl, by decide, fun p hp => ?_⟩
  refine oIxA_dic (kvs := conKvs) (k := .inr (cw a)) (by rw [con_dic]; exact cup_same) rfl (con_val_cw a) ?_
  exact ⟨C, sub_new hp, hq⟩
theorem contrary_qw {n : Nat} {a : Bool} {C : CH} {Q : Kv} {E : Kx} (hq : Q (.str (qw (!a))) C) : W (n + 1) i_contrary [.str (qw a)] C Q E := by
  rw [W_contrary]
  unfold b_contrary
  simp_arith! [cDic, cPrs]
  refine ⟨conKvs, rfl, rfl, by decide, fun p hp => ?_⟩
  refine oIxA_dic (kvs := conKvs) (k := .inr (qw a)) (by rw [con_dic]; exact cup_same) rfl (con_val_qw a) ?_
  exact ⟨C, sub_new hp, hq⟩
def flatB : List CS := match b_flat with
  | [_, .forS _ _ _ b, _] => b
  | _ => []

theorem cw_inj {a b : Bool} : (cw a = cw b) = (a = b) := by cases a <;> cases b <;> simp [cw] <;> decide
theorem head_at (c : Cn) : ∃ x r, c.t.d = .tup (.str (headW c) :: x :: r) := by
  cases c with
  | ask t w => exact ⟨_, _, rfl⟩
  | con a ps => exact ⟨_, _, rfl⟩
  | qu a t c => exact ⟨_, _, rfl⟩
theorem ask_cw (a : Bool) : (Str.ofString "ask" = cw a) = False := by cases a <;> simp [cw] <;> decide
theorem qw_cw (a b : Bool) : (qw b = cw a) = False := by cases a <;> cases b <;> simp [cw, qw] <;> decide
/-- one turn of flat -/
theorem flat_turn {G : G3} {ex : Kxs} {a : Bool} {c : Cn} {q : Addr} {acc : List D} {D : EndsC} {x1 x3 : Option L3.D} {C : CH} (hq : C q = some (.lst acc)) (hl : acc.length + csize c ≤ sizeLine)
    (hK : ∀ C', (∀ C0 : CH, C0 q = none → Sub C0 C → Sub C0 C') → (∀ p o, p ≠ q → C p = some o → C' p = some o) → C' q = some (.lst (acc ++ (flat1 a c).map fun z => z.t.d)) → D.nx [some (.str (cw a)), x1, some (.ref q), some c.t.d] C') :
    rdSs G ex flatB D [some (.str (cw a)), x1, some (.ref q), some c.t.d] C := by
  simp only [flatB, b_flat]
  have push : ∀ (d : L3.D) , c.t.d = d → flat1 a c = [c] → oLst [d] C fun d' C1 => oExtendA (.ref q) [d'] C1 fun _ C1 => D.nx [some (.str (cw a)), x1, some (.ref q), some d] C1 := fun d e e1 => by
    refine ⟨sl_le1, fun r hr => ?_⟩
    have hq' : cup C r (.lst [d]) q = some (.lst acc) := cup_old hr hq
    have hc1 := csize_pos c
    refine ⟨q, _, _, _, rfl, rfl, hq', .inr ⟨r, rfl, cup_same⟩, by simp only [List.length_cons, List.length_nil]; omega, ?_⟩
    rw [← e]
    refine hK _ (fun C0 h0 hs => sub_at h0 (hs.trans (sub_new hr))) (fun p o hp ho => ?_) ?_
    · rw [cup_ne hp]
      exact cup_old hr ho
    · rw [cup_same, e1, e]
      simp [e]
  cases c with
  | ask t w =>
    simp_arith! [Cn.t, T.d, T.ds, oEqN_strI so_ask (so_cw a), ask_cw, decide_false]
    exact ⟨isLst_of hq, push _ rfl rfl⟩
  | con b qs =>
    simp_arith! [Cn.t, T.d, T.ds, oEqN_strI (so_cw b) (so_cw a), cw_inj]
    refine ⟨isLst_of hq, ?_⟩
    by_cases hb : b = a
    · rw [if_pos (decide_eq_true hb)]
      have hl' := csizes_len qs
      simp only [csize] at hl
      refine ⟨q, _, _, _, rfl, rfl, hq, .inl rfl, by rw [T.ds_length, Cn.ts_map, List.length_map]; omega, ?_⟩
      refine hK _ (fun C0 h0 hs => sub_at h0 hs) (fun p o hp ho => by rw [cup_ne hp]; exact ho) ?_
      rw [cup_same, flat1, if_pos hb, T.ds_map, Cn.ts_map, List.map_map]
      rfl
    · rw [if_neg (by simp [hb])]
      exact push _ rfl (by simp [flat1, hb])
  | qu b t c =>
    simp_arith! [Cn.t, T.d, T.ds, oEqN_strI (so_qw b) (so_cw a), qw_cw, decide_false]
    exact ⟨isLst_of hq, push _ rfl rfl⟩
theorem flat_loop {G : G3} {ex : Kxs} {a : Bool} {q p : Addr} {D : EndsC} {C0 : CH} {all : List L3.D} (hpq : p ≠ q) (h0 : C0 q = none) : ∀ (cs : List Cn) (acc : List L3.D) (x3 : Option L3.D) (C : CH), C q = some (.lst acc) → C p = some (.lst all) → acc.length + csizes cs ≤ sizeLine → Sub C0 C →
    (∀ x3 C', Sub C0 C' → C' q = some (.lst (acc ++ (flatC a cs).map fun z => z.t.d)) → D.nx [some (.str (cw a)), some (.ref p), some (.ref q), x3] C') →
    forL (hT (.nm 3)) (rdSs G ex flatB) (fun C => LsC C p all) D (cs.map fun c => c.t.d) [some (.str (cw a)), some (.ref p), some (.ref q), x3] C
  | [], acc, x3, C, hq, hp, hl, hs, hK => ⟨hp, hK _ _ hs (by simpa [flatC] using hq)⟩
  | c :: cs, acc, x3, C, hq, hp, hl, hs, hK => by
    simp only [csizes] at hl
    refine ⟨hp, _, rfl, ?_⟩
    refine flat_turn (a := a) (c := c) (x3 := none) hq (by omega) fun C' h1 h2 h3 => ?_
    refine flat_loop hpq h0 cs _ _ C' h3 (h2 _ _ hpq hp) ?_ (h1 C0 h0 hs) fun x3' C'' hs' hq' => hK _ _ hs' ?_
    · have := flat1_size a c
      have := csizes_len (flat1 a c)
      simp only [List.length_append, List.length_map]
      omega
    · rw [hq']
      simp [flatC]
theorem flat_ok {n : Nat} {a : Bool} {cs : List Cn} {p : Addr} {C : CH} {Q : Kv} {E : Kx} (hl : csizes cs ≤ sizeLine) (hp : C p = some (.lst (cs.map fun c => c.t.d))) (hq : Q (Cn.con a (flatC a cs)).t.d C) : W (n + 1) i_flat [.str (cw a), .ref p] C Q E := by
  rw [W_flat]
  unfold b_flat
  rw [rdSs_cons]
  simp_arith [oLst]
  intro q hqn
  rw [rdSs_cons]
  simp_arith [sFor, iSeq]
  have hp' : cup C q (.lst []) p = some (.lst (cs.map fun c => c.t.d)) := cup_old hqn hp
  rw [hp']
  have hpq : p ≠ q := fun e => by rw [e, hqn] at hp; cases hp
  simp_arith []
  refine flat_loop (G := GG n) (ex := exN E) hpq hqn cs [] none _ cup_same hp' (by simpa using hl) (sub_new hqn) fun x3 C' hs hq' => ?_
  simp_arith! [oTuple]
  rw [hq']
  simp_arith! []
  refine ⟨C, hs, ?_⟩
  simpa [Cn.t, T.d, T.ds, T.ds_map, Cn.ts_map, List.map_map, Function.comp_def] using hq

theorem head_idx (c : Cn) : L2.atI (match c.t.d with | .tup xs => xs | _ => []) 0 = some (.str (headW c)) := by
  cases c <;> exact atI_zero
theorem cw_in (a : Bool) : (decide (cw a = Str.ofString "and") || decide (cw a = Str.ofString "or")) = true := by cases a <;> decide +kernel
theorem qw_in (a : Bool) : (decide (qw a = Str.ofString "and") || decide (qw a = Str.ofString "or")) = false := by cases a <;> decide +kernel
theorem cw_ask (a : Bool) : (cw a = Str.ofString "ask") = False := by cases a <;> simp [cw] <;> decide
theorem qw_ask (a : Bool) : (qw a = Str.ofString "ask") = False := by cases a <;> simp [qw] <;> decide
theorem hts_mem : ∀ {cs : List Cn} {c : Cn}, c ∈ cs → ht c ≤ hts cs
  | d :: cs, c, h => by
    simp only [hts]
    rcases List.mem_cons.mp h with e | h
    · rw [e]; omega
    · have := hts_mem h; omega
theorem csizes_mem : ∀ {cs : List Cn} {c : Cn}, c ∈ cs → csize c ≤ csizes cs
  | d :: cs, c, h => by
    simp only [csizes]
    rcases List.mem_cons.mp h with e | h
    · rw [e]; omega
    · have := csizes_mem h; omega
theorem ds_ts (ps : List Cn) : T.ds (Cn.ts ps) = ps.map fun c => c.t.d := by
  rw [T.ds_map, Cn.ts_map, List.map_map]; rfl
theorem settled_ok : ∀ (h n : Nat) (c : Cn) (b : Bool) (C : CH) (Q : Kv) (E : Kx), ht c ≤ h → csize c ≤ sizeLine → Q (settledC c b).t.d C → W (n + h + 2) i_settled [c.t.d, .bl b] C Q E := by
  intro h
  induction h with
  | zero => intro n c b C Q E hh; cases c <;> simp [ht] at hh
  | succ h ih =>
    intro n c b C Q E hh hl hq
    rw [W_settled]
    unfold b_settled
    cases c with
    | ask t w =>
      simp_arith! [Cn.t, T.d, T.ds, oEqN_strI so_ask so_ask, decide_true]
      refine ⟨C, Sub.refl, hq⟩
    | con a ps =>
      simp only [ht] at hh
      simp only [csize] at hl
      rw [rdSs_cons]
      simp_arith [Cn.t, T.d, T.ds, oEqN_strI (so_cw a) so_ask, cw_ask, decide_false]
      rw [rdSs_cons]
      have key : ∀ (D : EndsC) (x3 : Option L3.D), (∀ C', Sub C C' → D.rt (Cn.con (a == b) (flatC (a == b) (settledCs ps b))).t.d C') → rdSs (GG (n + (h + 1) + 1)) (exN E) (b_settled.drop 2) D [some (L3.D.tup [.str (cw a), .tup (T.ds (Cn.ts ps))]), some (.bl b), some (.str (cw (a == b))), x3] C := by
        intro D x3 hD
        simp only [b_settled, List.drop]
        rw [rdSs_cons]
        simp_arith [cw_in]
        rw [rdSs_cons]
        simp_arith []
        rw [ds_ts]
        simp_arith! [cLc, iSeq]
        have hcl := csizes_len ps
        refine lcL_of (fun c : Cn => c.t.d) (fun c : Cn => (settledC c b).t.d) trivial ps (fun c hc => ⟨_, rfl, fun Q' hQ => ?_⟩) (by omega) ?_
        · simp_arith! [wipe3, GG_call]
          refine ih n c b C Q' _ ?_ ?_ hQ
          · have := hts_mem hc; omega
          · have := csizes_mem hc; omega
        · intro p hp
          have hsz := settleds_size b ps
          refine flat_ok (n := n + (h + 1)) (cs := settledCs ps b) (by omega) (by rw [cup_same, settledCs_map, List.map_map]; rfl) ?_
          exact hD _ (sub_new hp)
      cases b with
      | true =>
        simp_arith []
        have e : (a == true) = a := by cases a <;> rfl
        rw [e] at key
        refine key _ _ fun C' hs => ⟨C, hs, ?_⟩
        simp only [settledC, e] at hq
        exact hq
      | false =>
        simp_arith [GG_call]
        have e : (a == false) = !a := by cases a <;> rfl
        rw [e] at key
        refine contrary_cw (n := n + (h + 1)) ?_
        refine key _ _ fun C' hs => ⟨C, hs, ?_⟩
        simp only [settledC, e] at hq
        exact hq
    | qu a t c =>
      simp only [ht] at hh
      simp only [csize] at hl
      rw [rdSs_cons]
      simp_arith [Cn.t, T.d, T.ds, oEqN_strI (so_qw a) so_ask, qw_ask, decide_false]
      rw [rdSs_cons]
      have key : ∀ (D : EndsC) (x3 : Option L3.D), (D.rt (Cn.qu (a == b) t (settledC c b)).t.d C) → rdSs (GG (n + (h + 1) + 1)) (exN E) (b_settled.drop 2) D [some (L3.D.tup [.str (qw a), t.d, c.t.d]), some (.bl b), some (.str (qw (a == b))), x3] C := by
        intro D x3 hD
        simp only [b_settled, List.drop]
        rw [rdSs_cons]
        simp_arith [qw_in]
        simp_arith! [GG_call]
        refine ih n c b C _ _ (by omega) (by omega) ?_
        simpa [Cn.t, T.d, T.ds] using hD
      cases b with
      | true =>
        simp_arith []
        have e : (a == true) = a := by cases a <;> rfl
        rw [e] at key
        refine key _ _ ⟨C, Sub.refl, ?_⟩
        simp only [settledC, e] at hq
        exact hq
      | false =>
        simp_arith [GG_call]
        have e : (a == false) = !a := by cases a <;> rfl
        rw [e] at key
        refine contrary_qw (n := n + (h + 1)) ?_
        refine key _ _ ⟨C, Sub.refl, ?_⟩
        simp only [settledC, e] at hq
        exact hq

theorem condLoop_total (known : Kn) : ∀ (fuel : Nat) (js : List Job) (count : Int), wt js ≤ fuel → ∃ b, condLoop fuel js count known = some b := by
  intro fuel
  induction fuel with
  | zero =>
    intro js count h
    cases js with
    | nil => exact ⟨_, rfl⟩
    | cons j js => have := size_pos j.1; simp only [wt] at h; omega
  | succ f ih =>
    intro js count h
    cases js with
    | nil => exact ⟨_, rfl⟩
    | cons j js =>
      simp only [condLoop]
      cases hc : condStep j count known with
      | none => exact ⟨_, rfl⟩
      | some r =>
        simp only
        by_cases h4 : r.2 > 400
        · rw [if_pos h4]; exact ⟨_, rfl⟩
        · rw [if_neg h4]
          refine ih _ _ ?_
          have := (condStep_wt hc).1
          rw [wt_append]
          simp only [wt] at h
          omega
/-- a condition at one of the levels 1, 2, 3 -/
def isCondK (t : T) (level : Int) (kn : Kn) : Bool := (condLoop (size t) [(t, level, 1)] 0 kn).getD false
def isCond (t : T) (level : Int) : Bool := isCondK t level level
theorem isCondK_ok {n : Nat} {t : T} {level : Int} {vs : List T} {pc : Addr} {C : CH} {Q : Kv} {E : Kx} (hk : KnAt C (.lst vs) (.ref pc)) (ho : okT t = true) (hd : t.p.depth ≤ 340) (hs : size t ≤ 1000000) (hq : Q (.bl (isCondK t level (.lst vs))) C) : W (n + 11) i_is_condition [t.d, .int level, .ref pc] C Q E := by
  obtain ⟨b, hb⟩ := condLoop_total (.lst vs) (size t) [(t, level, 1)] 0 (by simp [wt])
  refine is_condition_list (b := b) hk ho hd hs hb ?_
  unfold isCondK at hq
  rw [hb] at hq
  exact hq
theorem isCond_ok {n : Nat} {t : T} {level : Int} {C : CH} {Q : Kv} {E : Kx} (ho : okT t = true) (hd : t.p.depth ≤ 340) (hs : size t ≤ 1000000) (hq : Q (.bl (isCond t level)) C) : W (n + 11) i_is_condition [t.d, .int level, .non] C Q E := by
  obtain ⟨b, hb⟩ := condLoop_total level (size t) [(t, level, 1)] 0 (by simp [wt])
  refine is_condition_ok (b := b) ho hd hs hb ?_
  unfold isCond isCondK at hq
  rw [hb] at hq
  exact hq
/-- what is asked of a condition's tree -/
structure Fine (c : Cn) (h : Nat) : Prop where
  ok : okT c.t = true
  dp : c.t.p.depth ≤ 340
  sz : size c.t ≤ 1000000
  ht : ht c ≤ h
  cs : csize c ≤ 1000000
  lv : isCond c.t 1 = true ∨ isCond c.t 2 = true ∨ isCond c.t 3 = true

def stK (l c : Addr) (r t : Int) : List (L2.Key × D) := [(.inr "large", .ref l), (.inr "cells", .ref c), (.inr "rest", .int r), (.inr "turn", .int t)]
/-- the law's state stands at s, N draws are left; the rest of the heap is C0 -/
structure StAt (C0 C : CH) (s l c : Addr) (ls cs : List Int) (r t : Int) : Prop where
  at_ : C s = some (.dic (stK l c r t))
  large : C l = some (.lst (ls.map D.int))
  cells : C c = some (.lst (cs.map D.int))
  sub : Sub C0 C
  s0 : C0 s = none
  l0 : C0 l = none
  c0 : C0 c = none
  lc : l ≠ c
def St (C0 C : CH) (s : Addr) (N : Nat) : Prop := ∃ l c ls cs r t, StAt C0 C s l c ls cs r t ∧ 0 ≤ t ∧ t + N ≤ 2 ^ 40 ∧ (ls.length : Int) ≤ 1000 ∧ (cs.length : Int) ≤ 1000
theorem StAt.sl {C0 C : CH} {s l c : Addr} {ls cs : List Int} {r t : Int} (h : StAt C0 C s l c ls cs r t) : s ≠ l ∧ s ≠ c := by
  refine ⟨fun e => ?_, fun e => ?_⟩
  · have a := h.at_; rw [e, h.large] at a; cases a
  · have a := h.at_; rw [e, h.cells] at a; cases a
theorem StAt.put {C0 C : CH} {s l c : Addr} {ls cs : List Int} {r t r' t' : Int} (h : StAt C0 C s l c ls cs r t) : StAt C0 (cup C s (.dic (stK l c r' t'))) s l c ls cs r' t' := by
  obtain ⟨a, b⟩ := h.sl
  exact ⟨cup_same, by rw [cup_ne (Ne.symm a)]; exact h.large, by rw [cup_ne (Ne.symm b)]; exact h.cells, sub_at h.s0 h.sub, h.s0, h.l0, h.c0, h.lc⟩
theorem StAt.putL {C0 C : CH} {s l c : Addr} {ls ls' cs : List Int} {r t : Int} (h : StAt C0 C s l c ls cs r t) : StAt C0 (cup C l (.lst (ls'.map D.int))) s l c ls' cs r t := by
  obtain ⟨a, b⟩ := h.sl
  exact ⟨by rw [cup_ne a]; exact h.at_, cup_same, by rw [cup_ne (Ne.symm h.lc)]; exact h.cells, sub_at h.l0 h.sub, h.s0, h.l0, h.c0, h.lc⟩
theorem StAt.new {C0 C : CH} {s l c p : Addr} {o : CO} {ls cs : List Int} {r t : Int} (h : StAt C0 C s l c ls cs r t) (hp : C p = none) : StAt C0 (cup C p o) s l c ls cs r t :=
  ⟨cup_old hp h.at_, cup_old hp h.large, cup_old hp h.cells, h.sub.trans (sub_new hp), h.s0, h.l0, h.c0, h.lc⟩
theorem st_large {l c : Addr} {r t : Int} : valC (stK l c r t) (.inr "large") = some (.ref l) := rfl
theorem st_cells {l c : Addr} {r t : Int} : valC (stK l c r t) (.inr "cells") = some (.ref c) := rfl
theorem st_rest {l c : Addr} {r t : Int} : valC (stK l c r t) (.inr "rest") = some (.int r) := rfl
theorem st_turn {l c : Addr} {r t : Int} : valC (stK l c r t) (.inr "turn") = some (.int t) := rfl
theorem st_putR {l c : Addr} {r t r' : Int} : putC (stK l c r t) (.inr "rest") (.int r') = stK l c r' t := rfl
theorem st_putT {l c : Addr} {r t t' : Int} : putC (stK l c r t) (.inr "turn") (.int t') = stK l c r t' := rfl
/-- state[..] -/
theorem ix_rest {C0 C : CH} {s l c : Addr} {ls cs : List Int} {r t : Int} {Q : Kv} (h : StAt C0 C s l c ls cs r t) : oIxA (.ref s) (.str "rest") C Q ↔ Q (.int r) C := by
  unfold oIxA
  simp only [h.at_]
  constructor
  · rintro ⟨k, d, hk, e, q⟩
    cases hk
    rw [st_rest] at e
    cases e
    exact q
  · intro q
    exact ⟨_, _, rfl, st_rest, q⟩
theorem ix_turn {C0 C : CH} {s l c : Addr} {ls cs : List Int} {r t : Int} {Q : Kv} (h : StAt C0 C s l c ls cs r t) : oIxA (.ref s) (.str "turn") C Q ↔ Q (.int t) C := by
  unfold oIxA
  simp only [h.at_]
  constructor
  · rintro ⟨k, d, hk, e, q⟩
    cases hk
    rw [st_turn] at e
    cases e
    exact q
  · intro q
    exact ⟨_, _, rfl, st_turn, q⟩
theorem ix_large {C0 C : CH} {s l c : Addr} {ls cs : List Int} {r t : Int} {Q : Kv} (h : StAt C0 C s l c ls cs r t) : oIxA (.ref s) (.str "large") C Q ↔ Q (.ref l) C := by
  unfold oIxA
  simp only [h.at_]
  constructor
  · rintro ⟨k, d, hk, e, q⟩
    cases hk
    rw [st_large] at e
    cases e
    exact q
  · intro q
    exact ⟨_, _, rfl, st_large, q⟩
theorem ix_cells {C0 C : CH} {s l c : Addr} {ls cs : List Int} {r t : Int} {Q : Kv} (h : StAt C0 C s l c ls cs r t) : oIxA (.ref s) (.str "cells") C Q ↔ Q (.ref c) C := by
  unfold oIxA
  simp only [h.at_]
  constructor
  · rintro ⟨k, d, hk, e, q⟩
    cases hk
    rw [st_cells] at e
    cases e
    exact q
  · intro q
    exact ⟨_, _, rfl, st_cells, q⟩
theorem snap_ints (C : CH) : ∀ ns : List Int, SnapL C (ns.map D.int) (ns.map PyData.int)
  | [] => .nil
  | n :: ns => .cons (.int n) (snap_ints C ns)
theorem deep_ints : ∀ ns : List Int, PyData.canLayAll0 (ns.map PyData.int) = true ∧ PyData.depthAll (ns.map PyData.int) = 0
  | [] => ⟨rfl, rfl⟩
  | n :: ns => by
    obtain ⟨h1, h2⟩ := deep_ints ns
    exact ⟨h1, by show max 0 _ = 0; rw [h2]; rfl⟩
/-- a list of ints against the empty list -/
theorem ints_ne {C : CH} {p r : Addr} {ns : List Int} {Q : Kv} (h : C p = some (.lst (ns.map D.int))) (h2 : C r = some (.lst [])) (q : Q (.bl (!ns.isEmpty)) C) : oEqN not (.ref p) (.ref r) C Q := by
  obtain ⟨d1, d2⟩ := deep_ints ns
  refine ⟨.list (ns.map PyData.int), .list [], .lst h (snap_ints C ns), .lst h2 .nil, ?_, by decide, ?_⟩
  · have e : (PyData.list (ns.map PyData.int)).depth ≤ 350 := by
      show PyData.depthAll _ + 1 ≤ 350
      omega
    unfold deepOk
    rw [decide_eq_true e, Bool.and_true]
    exact d1
  · cases ns with
    | nil => exact q
    | cons j js => exact q
theorem set_rest {C : CH} {s l c : Addr} {r t z : Int} {Q : CH → Prop} (h : C s = some (.dic (stK l c r t))) (q : Q (cup C s (.dic (stK l c z t)))) : oSetL (.ref s) (.str "rest") (.int z) C Q ∨ oSetD (.ref s) (.str "rest") (.int z) C Q :=
  .inr ⟨s, _, _, rfl, h, rfl, by show 4 < sizeLine; decide, by rw [st_putR]; exact q⟩
theorem set_turn {C : CH} {s l c : Addr} {r t z : Int} {Q : CH → Prop} (h : C s = some (.dic (stK l c r t))) (q : Q (cup C s (.dic (stK l c r z)))) : oSetL (.ref s) (.str "turn") (.int z) C Q ∨ oSetD (.ref s) (.str "turn") (.int z) C Q :=
  .inr ⟨s, _, _, rfl, h, rfl, by show 4 < sizeLine; decide, by rw [st_putT]; exact q⟩
def drawT : CE := match b__law_draw with
  | .whileS t _ :: _ => t
  | _ => .cst .non
def drawB : List CS := match b__law_draw with
  | .whileS _ b :: _ => b
  | _ => []
theorem draw_loop {G : G3} {ex : Kxs} {C0 : CH} {s l c : Addr} {cs : List Int} {t : Int} {D : EndsC} {y1 y2 y3 y4 y5 : Option L3.D}
    (hK : ∀ ls' r' C', StAt C0 C' s l c ls' cs r' t → (ls'.length : Int) ≤ 1000 → D.nx [some (.ref s), y1, y2, y3, y4, y5] C') : ∀ (ls : List Int) (r : Int) (C : CH), StAt C0 C s l c ls cs r t → (ls.length : Int) ≤ 1000 →
      whileN (rdT G ex drawT) (rdSs G ex drawB) D (ls.length + 1) [some (.ref s), y1, y2, y3, y4, y5] C
  | ls, r, C, h, hl => by
    unfold whileN
    conv => rw [drawT, b__law_draw]
    dsimp only
    simp_arith! [ix_rest h]
    by_cases h0 : r = 0
    · rw [if_pos (decide_eq_true h0)]
      simp_arith! [ix_large h, oLst]
      intro p hp
      refine ints_ne (cup_old hp h.large) cup_same ?_
      cases ls with
      | nil =>
        simp_arith! [List.isEmpty]
        exact hK _ _ _ (h.new hp) hl
      | cons z zs =>
        simp_arith! [List.isEmpty]
        conv => rw [drawB, b__law_draw]
        dsimp only
        have h' := h.new (o := .lst []) hp
        simp_arith! [ix_large h']
        refine ⟨isLst_of h'.large, ?_⟩
        refine ⟨l, _, 0, 0, .int z, rfl, rfl, h'.large, by decide, by decide, ?_, rfl, ?_⟩
        · show seqIndex? 0 _ = some 0
          simp [seqIndex?]
        · have h2 : StAt C0 (cup (cup C p (.lst [])) l (.lst (zs.map L3.D.int))) s l c zs cs r t := h'.putL
          refine set_rest h2.at_ ?_
          have h3 := h2.put (r' := z) (t' := t)
          simp only [List.length_cons] at hl
          exact (show whileN (rdT G ex drawT) (rdSs G ex drawB) D (zs.length + 1) _ _ from draw_loop hK zs z _ h3 (by omega))
    · rw [if_neg (by simp [h0])]
      exact hK _ _ _ h hl

theorem St.less {C0 C : CH} {s : Addr} {N k : Nat} (h : St C0 C s (N + k)) : St C0 C s N := by
  obtain ⟨l, c, ls, cs, r, t, h1, h2, h3, h4, h5⟩ := h
  exact ⟨l, c, ls, cs, r, t, h1, h2, by omega, h4, h5⟩
theorem draw_ok {n N : Nat} {C0 C : CH} {s : Addr} {size : Int} {Q : Kv} {E : Kx} (h : St C0 C s (N + 1)) (h1 : 1 ≤ size) (h2 : size < 1073741824) (hq : ∀ k C', 0 ≤ k → k < size → St C0 C' s N → Q (.int k) C') : W (n + 1) i__law_draw [.ref s, .int size] C Q E := by
  rw [W__law_draw]
  unfold b__law_draw
  rw [rdSs_cons, rdS_while]
  obtain ⟨l, c, ls, cs, r, t, h, ht, htN, hl, hc⟩ := h
  refine ⟨ls.length + 1, draw_loop (cs := cs) (t := t) (l := l) (c := c) ?_ ls r C h hl⟩
  clear h hl C
  intro ls r C h hl
  dsimp only
  rw [rdSs_cons]
  simp_arith [ix_rest h]
  by_cases hr : 0 < r
  · rw [if_pos (decide_eq_true hr)]
    simp_arith! [ix_rest h]
    refine ⟨by omega, ⟨by omega, by omega⟩, set_rest h.at_ ⟨_, Sub.refl, hq _ _ (Int.fmod_nonneg_of_pos _ (by omega)) (Int.fmod_lt_of_pos _ (by omega)) ⟨l, c, ls, cs, _, t, h.put, ht, by omega, hl, hc⟩⟩⟩
  · rw [if_neg (by simp [hr])]
    rw [rdSs_cons]
    simp_arith [ix_turn h]
    rw [rdSs_cons]
    simp_arith []
    refine set_turn h.at_ ?_
    have h2 := h.put (r' := r) (t' := t + 1)
    generalize cup C s (.dic (stK l c r (t + 1))) = C2 at h2
    rw [rdSs_cons]
    simp_arith [ix_cells h2, oLst]
    intro p hp
    refine ints_ne (cup_old hp h2.cells) cup_same ?_
    have h3 := h2.new (o := .lst []) hp
    generalize cup C2 p (.lst []) = C3 at h3
    have fin : ∀ (z : Int), rdSs (GG n) (exN E) (b__law_draw.drop 5) { nx := fun x C' => ∃ C1, Sub C1 C' ∧ Q D.non C1, rt := fun d C' => ∃ C1, Sub C1 C' ∧ Q d C1 } [some (.ref s), some (.int size), some (.int (t + 1)), some (.int z), none, none] C3 := by
      intro z
      simp only [b__law_draw, List.drop]
      simp_arith! []
      have a1 := Int.fmod_nonneg_of_pos z (show (0 : Int) < 2147483629 by decide)
      have a2 := Int.fmod_lt_of_pos z (show (0 : Int) < 2147483629 by decide)
      generalize z.fmod 2147483629 = x at a1 a2
      have b1 := Int.fmod_nonneg_of_pos ((x + 69621 * (t + 1) + 12345) ^ Int.toNat 3) (show (0 : Int) < 2147483647 by decide)
      have b2 := Int.fmod_lt_of_pos ((x + 69621 * (t + 1) + 12345) ^ Int.toNat 3) (show (0 : Int) < 2147483647 by decide)
      generalize ((x + 69621 * (t + 1) + 12345) ^ Int.toNat 3).fmod 2147483647 = y at b1 b2
      refine ⟨by decide, .inl ⟨by decide, by decide⟩, ⟨by decide, by decide, by omega⟩, by decide, .inl ⟨by decide, by decide⟩, ⟨by decide, by decide, by omega⟩, by decide, ⟨by decide, by decide⟩, by omega, C3, Sub.refl, hq _ _ (Int.fmod_nonneg_of_pos _ (by omega)) (Int.fmod_lt_of_pos _ (by omega)) ⟨l, c, ls, cs, r, t + 1, h3, by omega, by omega, hl, hc⟩⟩
    cases cs with
    | nil =>
      simp_arith [List.isEmpty]
      exact fin 0
    | cons z zs =>
      simp_arith [List.isEmpty, ix_cells h3, h3.cells, List.length_map]
      refine ⟨by omega, ?_⟩
      have k1 := Int.fmod_nonneg_of_pos (t + 1) (show (0 : Int) < ((zs.length + 1 : Nat) : Int) by omega)
      have k2 := Int.fmod_lt_of_pos (t + 1) (show (0 : Int) < ((zs.length + 1 : Nat) : Int) by omega)
      generalize (t + 1).fmod ((zs.length + 1 : Nat) : Int) = k at k1 k2
      obtain ⟨j, rfl⟩ : ∃ j : Nat, k = j := ⟨k.toNat, by omega⟩
      have hj : j < (z :: zs).length := by simp only [List.length_cons]; omega
      have hz : ((z :: zs).map D.int)[j]? = some (D.int ((z :: zs)[j])) := by rw [List.getElem?_map, List.getElem?_eq_getElem hj]; rfl
      exact oIxA_lst h3.cells (atI_nat hz) (fin _)
theorem pick_ok {n N : Nat} {C0 C : CH} {s p : Addr} {xs : List D} {Q : Kv} {E : Kx} (h : St C0 C s (N + 1)) (hp : C0 p = some (.lst xs)) (h1 : 1 ≤ xs.length) (h2 : xs.length < 1000000) (hq : ∀ d C', d ∈ xs → St C0 C' s N → Q d C') : W (n + 2) i__law_pick [.ref s, .ref p] C Q E := by
  rw [W__law_pick]
  unfold b__law_pick
  have hC : C p = some (.lst xs) := by obtain ⟨l, c, ls, cs, r, t, h, _⟩ := h; exact h.sub _ _ hp
  simp_arith! [hC, GG_call]
  refine draw_ok h (by omega) (by omega) fun k C' k1 k2 h' => ?_
  have hC' : C' p = some (.lst xs) := by obtain ⟨l, c, ls, cs, r, t, h', _⟩ := h'; exact h'.sub _ _ hp
  obtain ⟨j, rfl⟩ : ∃ j : Nat, k = j := ⟨k.toNat, by omega⟩
  have hj : j < xs.length := by omega
  refine oIxA_lst hC' (atI_nat (List.getElem?_eq_getElem hj)) ⟨C', Sub.refl, hq _ _ (List.getElem_mem hj) h'⟩
theorem pick_str {n N : Nat} {C0 C : CH} {s : Addr} {z : Str} {Q : Kv} {E : Kx} (h : St C0 C s (N + 1)) (h1 : 1 ≤ z.length) (h2 : z.length < 1000000) (hq : ∀ c C', c ∈ z.cps.toList → St C0 C' s N → Q (.str ⟨#[c]⟩) C') : W (n + 2) i__law_pick [.ref s, .str z] C Q E := by
  rw [W__law_pick]
  unfold b__law_pick
  have hs : z.length ≤ sizeLine := by have : 1000000 ≤ sizeLine := (by decide); omega
  simp_arith! [GG_call]
  refine ⟨hs, ?_⟩
  refine draw_ok h (by omega) (by omega) fun k C' k1 k2 h' => ?_
  obtain ⟨j, rfl⟩ : ∃ j : Nat, k = j := ⟨k.toNat, by omega⟩
  rw [len_cps] at k2
  have hj : j < z.cps.toList.length := by omega
  rw [oIxA_str]
  exact ⟨hs, _, atI_nat (List.getElem?_eq_getElem hj), C', Sub.refl, hq _ _ (List.getElem_mem hj) h'⟩

theorem St.alloc {C0 C : CH} {s p : Addr} {N : Nat} {o : CO} (h : St C0 C s N) (hp : C p = none) : St (cup C0 p o) (cup C p o) s N := by
  obtain ⟨l, c, ls, cs, r, t, h, h2⟩ := h
  have ne : ∀ q u, C q = some u → q ≠ p := fun q u e z => by rw [z, hp] at e; cases e
  refine ⟨l, c, ls, cs, r, t, ⟨cup_old hp h.at_, cup_old hp h.large, cup_old hp h.cells, fun a u e => ?_, ?_, ?_, ?_, h.lc⟩, h2⟩
  · by_cases ha : a = p
    · subst ha; rw [cup_same] at e ⊢; exact e
    · rw [cup_ne ha] at e ⊢; exact h.sub a u e
  · rw [cup_ne (ne _ _ h.at_)]; exact h.s0
  · rw [cup_ne (ne _ _ h.large)]; exact h.l0
  · rw [cup_ne (ne _ _ h.cells)]; exact h.c0
/-- what was made meanwhile is forgotten -/
theorem St.drop {C0 C1 C : CH} {s : Addr} {N : Nat} (h : St C1 C s N) (hs : Sub C0 C1) : St C0 C s N := by
  obtain ⟨l, c, ls, cs, r, t, h, h2⟩ := h
  have no : ∀ q, C1 q = none → C0 q = none := fun q e => by
    cases e2 : C0 q with
    | none => rfl
    | some u => rw [hs _ _ e2] at e; cases e
  exact ⟨l, c, ls, cs, r, t, ⟨h.at_, h.large, h.cells, hs.trans h.sub, no _ h.s0, no _ h.l0, no _ h.c0, h.lc⟩, h2⟩
theorem St.subC {C0 C : CH} {s : Addr} {N : Nat} (h : St C0 C s N) : Sub C0 C := by
  obtain ⟨l, c, ls, cs, r, t, h, h2⟩ := h
  exact h.sub
theorem begin_ok {n : Nat} {ns : List Int} {C0 : CH} {Q : Kv} {E : Kx} (hl : ns.length ≤ 63) (hq : ∀ s C', St C0 C' s 1000000 → Q (.ref s) C') : W (n + 1) i__law_begin [.rls (ns.map D.int)] C0 Q E := by
  rw [W__law_begin]
  unfold b__law_begin
  rw [rdSs_cons]
  have h63 : (64 : Nat) ≤ sizeLine := by decide
  simp_arith [cLc, iSeq]
  refine lcL_of D.int (fun z : Int => D.int (if z < 0 then -z else z)) trivial ns (fun z _ => ⟨_, rfl, fun Q' hQ => ?_⟩) (by omega) ?_
  · simp_arith! [wipe3]
    exact hQ
  intro c hc
  have em : (ns.map fun z : Int => D.int (if z < 0 then -z else z)) = (ns.map fun z : Int => if z < 0 then -z else z).map D.int := by rw [List.map_map]; rfl
  rw [em]
  generalize hcs : (ns.map fun z : Int => if z < 0 then -z else z) = cs
  have hcl : cs.length ≤ 63 := by rw [← hcs, List.length_map]; exact hl
  rw [rdSs_cons]
  simp_arith [cDic, cPrs, cLc, iSeq]
  have hc1 : cup C0 c (.lst (cs.map D.int)) c = some (.lst (cs.map D.int)) := cup_same
  refine lcL_if D.int (fun z : Int => D.int (z - 10 ^ 18)) (fun z => decide ((10 : Int) ^ 18 ≤ z)) hc1 cs (fun z _ => ⟨_, rfl, fun Q' hQ => ?_, fun Q' hQ => ?_⟩) (by omega) ?_
  · simp_arith! [wipe3]
    exact ⟨⟨by decide, by decide, by decide⟩, hQ⟩
  · simp_arith! [wipe3]
    exact ⟨⟨by decide, by decide, by decide⟩, hQ⟩
  intro l hll
  have em2 : ((cs.filter fun z => decide ((10 : Int) ^ 18 ≤ z)).map fun z : Int => D.int (z - 10 ^ 18)) = ((cs.filter fun z => decide ((10 : Int) ^ 18 ≤ z)).map fun z : Int => z - 10 ^ 18).map D.int := by rw [List.map_map]; rfl
  rw [em2]
  generalize hls : ((cs.filter fun z => decide ((10 : Int) ^ 18 ≤ z)).map fun z : Int => z - 10 ^ 18) = ls
  have hlsl : ls.length ≤ 63 := by
    have := List.length_filter_le (fun z => decide ((10 : Int) ^ 18 ≤ z)) cs
    rw [← hls, List.length_map]
    omega
  refine ⟨stK l c 0 0, rfl, rfl, by show 4 ≤ 15; decide, fun s hs => ⟨_, Sub.refl, hq _ _ ?_⟩⟩
  have e : dicOf (stK l c 0 0) = stK l c 0 0 := rfl
  rw [e]
  have hcl' : l ≠ c := fun z => by rw [z, cup_same] at hll; cases hll
  have no : ∀ (C : CH) (a b : Addr) (o : CO), cup C b o a = none → C a = none := fun C a b o h => by
    by_cases hab : a = b
    · subst hab; rw [cup_same] at h; cases h
    · rw [cup_ne hab] at h; exact h
  have hl0 := no _ _ _ _ hll
  have hs0 := no _ _ _ _ (no _ _ _ _ hs)
  refine ⟨l, c, ls, cs, 0, 0, ⟨cup_same, cup_old hs cup_same, cup_old hs (cup_old hll cup_same), ?_, hs0, hl0, hc, hcl'⟩, by omega, by omega, by omega, by omega⟩
  exact ((sub_new hc).trans (sub_new hll)).trans (sub_new hs)
theorem St.no {C0 C : CH} {s p : Addr} {N : Nat} (h : St C0 C s N) (hp : C p = none) : C0 p = none := by
  cases e : C0 p with
  | none => rfl
  | some u => rw [h.subC _ _ e] at hp; cases hp
theorem St.le {C0 C : CH} {s : Addr} {M N : Nat} (h : St C0 C s N) (hm : M ≤ N) : St C0 C s M := St.less (k := N - M) (by rw [show M + (N - M) = N by omega]; exact h)
theorem St.sub {C0 C C' : CH} {s : Addr} {N : Nat} (h : St C0 C s N) (k : Sub C C') : St C0 C' s N := by
  obtain ⟨l, c, ls, cs, r, t, h, h2⟩ := h
  exact ⟨l, c, ls, cs, r, t, ⟨k _ _ h.at_, k _ _ h.large, k _ _ h.cells, h.sub.trans k, h.s0, h.l0, h.c0, h.lc⟩, h2⟩

theorem joinL_nil : ∀ cs : List Nat, TL.joinL [] (cs.map fun c => [c]) = cs
  | [] => rfl
  | [c] => rfl
  | c :: d :: r => by
    show [c] ++ ([] ++ TL.joinL [] ((d :: r).map fun c => [c])) = _
    rw [joinL_nil (d :: r)]
    rfl
theorem join_chars (cs : List Nat) : (Txt.join (Str.ofString "") (cs.map fun c => (⟨#[c]⟩ : Str))).cps.toList = cs := by
  rw [TL.join_eq]
  have := TL.tl_join (Str.ofString "") (cs.map fun c => (⟨#[c]⟩ : Str))
  rw [List.map_map] at this
  exact this.trans (joinL_nil cs)
def goodNm (z : Str) : Prop := isNm z = true ∧ z.length ≤ 8 ∧ PyData.strOk z = true
theorem good_pqfg : ∀ z ∈ (["p", "q", "f", "g"] : List Str), goodNm z := by
  intro z hz
  simp only [List.mem_cons, List.not_mem_nil, or_false] at hz
  rcases hz with rfl | rfl | rfl | rfl <;> exact ⟨by decide +kernel, by decide +kernel, by decide +kernel⟩
theorem good_words : ∀ z ∈ (["any", "all", "not", "and", "or", "then", "else", "source", "x1", "emit", "if", "for"] : List Str), goodNm z := by
  intro z hz
  simp only [List.mem_cons, List.not_mem_nil, or_false] at hz
  rcases hz with rfl | rfl | rfl | rfl | rfl | rfl | rfl | rfl | rfl | rfl | rfl | rfl <;> exact ⟨by decide +kernel, by decide +kernel, by decide +kernel⟩
theorem let_sig : ∀ c ∈ LET.cps.toList, c ∈ SIG.cps.toList := by decide +kernel
theorem sig_small : ∀ c ∈ SIG.cps.toList, c < 1114112 := by decide +kernel
theorem good_chars {z : Str} {c : Nat} {cs : List Nat} (h : z.cps.toList = c :: cs) (hc : c ∈ LET.cps.toList) (hs : ∀ x ∈ cs, x ∈ SIG.cps.toList) (hl : cs.length ≤ 7) : goodNm z := by
  have hz : z.length = cs.length + 1 := by rw [len_cps, h]; rfl
  refine ⟨?_, by omega, ?_⟩
  · unfold isNm
    rw [h]
    simp only [Bool.and_eq_true, decide_eq_true_eq, List.all_eq_true]
    refine ⟨by omega, hc, fun x hx => ?_⟩
    rcases List.mem_cons.mp hx with e | hx
    · rw [e]; exact let_sig _ hc
    · exact hs x hx
  · show z.cps.all (· < 0x110000) = true
    rw [← Array.all_toList, h, List.all_eq_true]
    intro x hx
    rcases List.mem_cons.mp hx with e | hx
    · rw [e]; exact decide_eq_true (sig_small _ (let_sig _ hc))
    · exact decide_eq_true (sig_small _ (hs x hx))
theorem name_ok {n N : Nat} {C0 C : CH} {s : Addr} {Q : Kv} {E : Kx} (h : St C0 C s (N + 12)) (hq : ∀ z C', goodNm z → St C0 C' s N → Q (.str z) C') : W (n + 3) i__law_name [.ref s] C Q E := by
  rw [W__law_name]
  unfold b__law_name
  rw [rdSs_cons]
  simp_arith [GG_call]
  refine draw_ok (N := N + 11) h (by decide) (by decide) fun way C1 w1 w2 h1 => ?_
  rw [rdSs_cons]
  simp_arith []
  by_cases c1 : way < 3
  · rw [if_pos (decide_eq_true c1)]
    simp_arith! [oLst, GG_call]
    intro p hp
    refine pick_ok (N := N + 10) (h1.alloc hp) cup_same (by decide) (by decide) fun d C' hd h' => ?_
    obtain ⟨z, hz, rfl⟩ : ∃ z ∈ (["p", "q", "f", "g"] : List Str), d = .str z := by
      obtain ⟨z, hz, e⟩ := List.mem_map.mp (show d ∈ (["p", "q", "f", "g"] : List Str).map D.str from hd)
      exact ⟨z, hz, e.symm⟩
    have hp0 : C0 p = none := by
      cases e : C0 p with
      | none => rfl
      | some u => rw [h1.subC _ _ e] at hp; cases hp
    exact ⟨C', Sub.refl, hq _ _ (good_pqfg z hz) ((h'.drop (sub_new hp0)).less (k := 10))⟩
  · rw [if_neg (by simp [c1])]
    rw [rdSs_cons]
    simp_arith []
    by_cases c2 : way = 3
    · rw [if_pos (decide_eq_true c2)]
      simp_arith! [oLst, GG_call]
      intro p hp
      refine pick_ok (N := N + 10) (h1.alloc hp) cup_same (by decide) (by decide) fun d C' hd h' => ?_
      obtain ⟨z, hz, rfl⟩ : ∃ z ∈ (["any", "all", "not", "and", "or", "then", "else", "source", "x1", "emit", "if", "for"] : List Str), d = .str z := by
        obtain ⟨z, hz, e⟩ := List.mem_map.mp (show d ∈ (["any", "all", "not", "and", "or", "then", "else", "source", "x1", "emit", "if", "for"] : List Str).map D.str from hd)
        exact ⟨z, hz, e.symm⟩
      have hp0 : C0 p = none := by
        cases e : C0 p with
        | none => rfl
        | some u => rw [h1.subC _ _ e] at hp; cases hp
      exact ⟨C', Sub.refl, hq _ _ (good_words z hz) ((h'.drop (sub_new hp0)).less (k := 10))⟩
    · rw [if_neg (by simp [c2])]
      rw [rdSs_cons]
      simp_arith []
      rw [rdSs_cons]
      simp_arith [cLc, iRg1, GG_call]
      refine draw_ok (N := N + 10) h1 (by decide) (by decide) fun k C2 k1 k2 h2 => ?_
      obtain ⟨j, rfl⟩ : ∃ j : Nat, k = j := ⟨k.toNat, by omega⟩
      refine ⟨_, rfl, by omega, by omega, ?_⟩
      have hjt : (rngD 0 (j : Int).toNat).length = j := by simp [rngD]
      refine lcL_run (fun k C => St C0 C s (N + 1 + k)) (fun d => ∃ c, c ∈ SIG.cps.toList ∧ d = .str ⟨#[c]⟩) (fun _ _ _ => trivial) _ [] C2 ?_ (fun _ h => nomatch h) ?_ ?_ ?_
      · rw [hjt]; exact St.less (k := 9 - j) (by rw [show N + 1 + j + (9 - j) = N + 10 by omega]; exact h2)
      · rw [hjt]; have : 100 ≤ sizeLine := (by decide); simp only [List.length_nil]; omega
      · intro acc C3 h3 hla hR p hp
        obtain ⟨cs, hcs, hcl⟩ : ∃ cs : List Nat, acc = cs.map (fun c => D.str ⟨#[c]⟩) ∧ ∀ c ∈ cs, c ∈ SIG.cps.toList := by
          clear hla
          induction acc with
          | nil => exact ⟨[], rfl, fun _ h => nomatch h⟩
          | cons a acc ih =>
            obtain ⟨cs, e, h⟩ := ih fun d hd => hR d (List.mem_cons_of_mem _ hd)
            obtain ⟨c, hc, e2⟩ := hR a List.mem_cons_self
            refine ⟨c :: cs, by rw [e, e2]; rfl, fun x hx => ?_⟩
            rcases List.mem_cons.mp hx with z | hx
            · rw [z]; exact hc
            · exact h x hx
        subst hcs
        simp only [List.length_nil, List.length_map] at hla
        rw [hjt] at hla
        have hst := h3.alloc (o := .lst (cs.map fun c => D.str ⟨#[c]⟩)) hp
        simp_arith! [GG_call]
        refine pick_str (N := N) hst (by decide +kernel) (by decide +kernel) fun c C4 hc h4 => ?_
        refine ⟨⟨_, rfl⟩, ?_⟩
        have hpC : C4 p = some (.lst (cs.map fun c => D.str ⟨#[c]⟩)) := h4.subC _ _ cup_same
        have h16 : (1000 : Nat) ≤ sizeLine := by decide
        refine ⟨_, _, cs.map (fun c => (⟨#[c]⟩ : Str)), rfl, rfl, SqC_ref.mpr (by rw [hpC, List.map_map]; rfl), ?_, ?_⟩
        · have e1 : ((cs.map fun c => (⟨#[c]⟩ : Str)).map (·.length)).sum = cs.length := by
            clear hla hpC h4 hst hcl hR
            induction cs with
            | nil => rfl
            | cons c cs ih =>
              rw [List.map_cons, List.map_cons, List.sum_cons, ih, List.length_cons, show (⟨#[c]⟩ : Str).length = 1 from rfl]
              omega
          rw [e1, show (Str.ofString "").length = 0 from rfl]
          omega
        · have hj := join_chars cs
          generalize Txt.join (Str.ofString "") (cs.map fun c => (⟨#[c]⟩ : Str)) = z at hj
          have hzl : z.length = cs.length := by rw [len_cps, hj]
          have hc1 : (⟨#[c]⟩ : Str).length = 1 := rfl
          refine ⟨by omega, ?_⟩
          have hp0 : C0 p = none := by
            cases e : C0 p with
            | none => rfl
            | some u => rw [h3.subC _ _ e] at hp; cases hp
          refine ⟨C4, Sub.refl, hq _ _ (good_chars (c := c) (cs := cs) ?_ hc hcl (by omega)) (h4.drop (sub_new hp0))⟩
          have := TL.tl_append (⟨#[c]⟩ : Str) z
          exact this.trans (by show [c] ++ z.cps.toList = _; rw [hj]; rfl)
      · intro d hd k C3 h3
        obtain ⟨i, hi, rfl⟩ := List.mem_map.mp hd
        refine ⟨_, rfl, fun Q' hQ => ?_⟩
        simp_arith! [wipe3]
        refine ⟨by decide +kernel, ?_⟩
        refine pick_str (N := N + 1 + k) h3 (by decide +kernel) (by decide +kernel) fun c C' hc h' => hQ _ _ ⟨c, ?_, rfl⟩ h'
        have e : ((Str.ofString "abcdefghijklmnopqrstuvwxyz") ++ (Str.ofString "0123456789")) = SIG := by decide +kernel
        rw [e] at hc
        exact hc

/-! conditions of any terms, at the level at_, where terms with items up to kn have been called -/
theorem beq_assoc (a b c : Bool) : ((a == b) == c) = (a == (b == c)) := by cases a <;> cases b <;> cases c <;> rfl
theorem flatC_append (a : Bool) (xs ys : List Cn) : flatC a (xs ++ ys) = flatC a xs ++ flatC a ys := by simp [flatC]
theorem settledCs_append (b : Bool) (xs ys : List Cn) : settledCs (xs ++ ys) b = settledCs xs b ++ settledCs ys b := by simp [settledCs_map]
/-- flattening once is enough -/
theorem flat_flat (a b : Bool) : ∀ xs : List Cn, flatC (a == b) (settledCs (flatC a xs) b) = flatC (a == b) (settledCs xs b)
  | [] => rfl
  | x :: xs => by
    have ih := flat_flat a b xs
    have e : flatC a (x :: xs) = flat1 a x ++ flatC a xs := by simp [flatC]
    rw [e, settledCs_append, flatC_append, ih]
    have e2 : flatC (a == b) (settledCs (x :: xs) b) = flat1 (a == b) (settledC x b) ++ flatC (a == b) (settledCs xs b) := by simp [flatC, settledCs]
    rw [e2]
    congr 1
    cases x with
    | con c qs =>
      by_cases h : c = a
      · subst h
        simp [flat1, settledC]
      · simp [flat1, h, flatC, settledCs]
    | ask t w => simp [flat1, flatC, settledCs]
    | qu c t x => simp [flat1, flatC, settledCs]
mutual
theorem settled_twice (b b' : Bool) : ∀ c : Cn, settledC (settledC c b) b' = settledC c (b == b')
  | .ask t w => by simp only [settledC, beq_assoc]
  | .con a ps => by
    simp only [settledC]
    rw [flat_flat, settleds_twice b b' ps, beq_assoc]
  | .qu a t c => by
    simp only [settledC]
    rw [settled_twice b b' c, beq_assoc]
theorem settleds_twice (b b' : Bool) : ∀ cs : List Cn, settledCs (settledCs cs b) b' = settledCs cs (b == b')
  | [] => rfl
  | c :: cs => by
    simp only [settledCs]
    rw [settled_twice b b' c, settleds_twice b b' cs]
end

/-! ### values -/
inductive Vv where
  | item (i : Int) | app1 (z : Str) (a : Vv) | app2 (z : Str) (a b : Vv)
def Vv.t : Vv → T
  | .item i => .int i
  | .app1 z a => .tup [.str z, a.t]
  | .app2 z a b => .tup [.str z, a.t, b.t]
def Vv.h : Vv → Int
  | .item _ => 0
  | .app1 _ a => 1 + a.h
  | .app2 _ a b => 1 + (if b.h > a.h then b.h else a.h)
def Vv.top : Vv → Int
  | .item i => i
  | .app1 _ a => a.top
  | .app2 _ a b => if b.top > a.top then b.top else a.top
def Vv.good : Vv → Prop
  | .item i => 1 ≤ i
  | .app1 z a => goodNm z ∧ a.good
  | .app2 z a b => goodNm z ∧ a.good ∧ b.good
def Vv.size : Vv → Nat
  | .item _ => 1
  | .app1 _ a => 1 + a.size
  | .app2 _ a b => 1 + a.size + b.size
theorem Vv.h_nonneg : ∀ v : Vv, 0 ≤ v.h
  | .item _ => Int.le_refl _
  | .app1 _ a => by have := a.h_nonneg; simp only [Vv.h]; omega
  | .app2 _ a b => by have := a.h_nonneg; have := b.h_nonneg; simp only [Vv.h]; split <;> omega
theorem meas_vv : ∀ (r : Nat) (v : Vv), v.good → v.h ≤ r → v.top ≤ 3 → meas r v.t = some (v.h, v.top)
  | r, .item i, g, hh, ht => by
    simp only [Vv.good, Vv.top] at g ht
    cases r <;> simp [Vv.t, meas, g, ht, Vv.h, Vv.top]
  | 0, .app1 z a, g, hh, ht => by have := a.h_nonneg; simp only [Vv.h] at hh; omega
  | 0, .app2 z a b, g, hh, ht => by have := a.h_nonneg; have := b.h_nonneg; simp only [Vv.h] at hh; split at hh <;> omega
  | r + 1, .app1 z a, g, hh, ht => by
    simp only [Vv.h] at hh
    have e := meas_vv r a g.2 (by omega) ht
    have hn : isName (.str z) = true := g.1.1
    simp only [Vv.t, meas, hn, if_true, e, Option.map, Vv.h, Vv.top]
  | r + 1, .app2 z a b, g, hh, ht => by
    have ha : a.h ≤ r := by simp only [Vv.h] at hh; split at hh <;> omega
    have hb : b.h ≤ r := by simp only [Vv.h] at hh; split at hh <;> omega
    have ta : a.top ≤ 3 := by simp only [Vv.top] at ht; split at ht <;> omega
    have tb : b.top ≤ 3 := by simp only [Vv.top] at ht; split at ht <;> omega
    have e1 := meas_vv r a g.2.1 ha ta
    have e2 := meas_vv r b g.2.2 hb tb
    have hn : isName (.str z) = true := g.1.1
    simp only [Vv.t, meas, hn, if_true, e1, e2, both2, Vv.h, Vv.top]
theorem ok_nm {z : Str} (h : goodNm z) : okT (.str z) = true := by
  simp only [okT, Bool.and_eq_true, decide_eq_true_eq]
  have : 8 ≤ sizeLine := by decide
  exact ⟨by have := h.2.1; omega, h.2.2⟩
theorem ok_vv : ∀ v : Vv, v.good → okT v.t = true ∧ (v.t.p.depth : Int) ≤ v.h ∧ size v.t ≤ 2 * v.size
  | .item i, _ => ⟨rfl, by simp [Vv.t, T.p, PyData.depth, Vv.h], by simp [Vv.t, My.size, Vv.size]⟩
  | .app1 z a, g => by
    obtain ⟨h1, h2, h3⟩ := ok_vv a g.2
    have h0 := ok_nm g.1
    refine ⟨?_, ?_, ?_⟩
    · simp only [Vv.t, okT, okTs, Bool.and_true] at *
      rw [h0, h1]; rfl
    · simp only [Vv.t, T.p, T.pl, PyData.depth, PyData.depthAll, Vv.h]; omega
    · simp only [Vv.t, My.size, sizes, Vv.size]; omega
  | .app2 z a b, g => by
    obtain ⟨h1, h2, h3⟩ := ok_vv a g.2.1
    obtain ⟨k1, k2, k3⟩ := ok_vv b g.2.2
    have h0 := ok_nm g.1
    refine ⟨?_, ?_, ?_⟩
    · simp only [Vv.t, okT, okTs, Bool.and_true] at *
      rw [h0, h1, k1]; rfl
    · simp only [Vv.t, T.p, T.pl, PyData.depth, PyData.depthAll, Vv.h]; split <;> omega
    · simp only [Vv.t, My.size, sizes, Vv.size]; omega
theorem vv_size : ∀ (r : Nat) (v : Vv), v.h ≤ r → v.size + 1 ≤ 2 ^ (r + 1)
  | r, .item _, _ => by
    have : 2 ^ 1 ≤ 2 ^ (r + 1) := Nat.pow_le_pow_right (by decide) (by omega)
    simp only [Vv.size]; omega
  | 0, .app1 z a, hh => by have := a.h_nonneg; simp only [Vv.h] at hh; omega
  | 0, .app2 z a b, hh => by have := a.h_nonneg; have := b.h_nonneg; simp only [Vv.h] at hh; split at hh <;> omega
  | r + 1, .app1 z a, hh => by
    simp only [Vv.h] at hh
    have := vv_size r a (by omega)
    have e : 2 ^ (r + 1 + 1) = 2 ^ (r + 1) + 2 ^ (r + 1) := by rw [Nat.pow_succ]; omega
    have : 2 ^ 1 ≤ 2 ^ (r + 1) := Nat.pow_le_pow_right (by decide) (by omega)
    simp only [Vv.size]; omega
  | r + 1, .app2 z a b, hh => by
    have ha : a.h ≤ r := by simp only [Vv.h] at hh; split at hh <;> omega
    have hb : b.h ≤ r := by simp only [Vv.h] at hh; split at hh <;> omega
    have := vv_size r a ha
    have := vv_size r b hb
    have e : 2 ^ (r + 1 + 1) = 2 ^ (r + 1) + 2 ^ (r + 1) := by rw [Nat.pow_succ]; omega
    simp only [Vv.size]; omega
/-- a value that may be used at the level at_, where terms with items up to kn have been called -/
def Kn.has : Kn → Vv → Prop
  | .num k, v => v.top ≤ k
  | .lst vs, v => v.t ∈ vs
def Vv.use : Vv → Int → Kn → Prop
  | .item i, at_, _ => i ≤ at_
  | v, _, kn => kn.has v
def Vv.fit : Vv → Int → Kn → Prop
  | .item _, _, _ => False
  | .app1 _ a, at_, kn => a.use at_ kn
  | .app2 _ a b, at_, kn => a.use at_ kn ∧ b.use at_ kn
structure fitT (t : T) (at_ : Int) (kn : Kn) : Prop where
  ex : ∃ v : Vv, t = v.t ∧ v.good ∧ v.h ≤ 4 ∧ v.top ≤ 3 ∧ v.fit at_ kn
mutual
theorem eqv_refl : ∀ t : T, PyData.eqv t.p t.p = true
  | .non => rfl
  | .bl b => by simp [T.p, PyData.eqv]
  | .int i => by simp [T.p, PyData.eqv]
  | .str z => by simp [T.p, PyData.eqv]
  | .tup xs => by simp only [T.p, PyData.eqv]; exact eqvs_refl xs
theorem eqvs_refl : ∀ ts : List T, PyData.eqvAll (T.pl ts) (T.pl ts) = true
  | [] => rfl
  | t :: ts => by simp only [T.pl, PyData.eqvAll, eqv_refl t, eqvs_refl ts, Bool.and_self]
end
theorem inT_mem {v : T} : ∀ {vs : List T}, v ∈ vs → inT v vs = true
  | u :: us, h => by
    unfold inT
    simp only [T.pl, List.any_cons, Bool.or_eq_true]
    rcases List.mem_cons.mp h with e | h
    · left; rw [e]; exact eqv_refl u
    · right; exact inT_mem h
theorem has_may {kn : Kn} {v : Vv} (h : kn.has v) : kn.may v.top v.t = true := by
  cases kn with
  | num k => exact decide_eq_true h
  | lst vs => exact inT_mem h
theorem use_ok {v : Vv} {at_ : Int} {kn : Kn} (g : v.good) (hh : v.h ≤ 4) (ht : v.top ≤ 3) (u : v.use at_ kn) : mayUse v.t at_ kn = true := by
  unfold mayUse
  rw [meas_vv 4 v g hh ht]
  cases v with
  | item i => simp only [Vv.t, isNum, if_true, numOf]; exact decide_eq_true u
  | app1 z a => simp only [Vv.t, isNum, Bool.false_eq_true, if_false]; exact has_may (v := .app1 z a) u
  | app2 z a b => simp only [Vv.t, isNum, Bool.false_eq_true, if_false]; exact has_may (v := .app2 z a b) u
theorem fitT.call {t : T} {at_ : Int} {kn : Kn} (h : fitT t at_ kn) : mayCall t at_ kn = true := by
  obtain ⟨v, rfl, g, hh, ht, f⟩ := h.ex
  have m := meas_vv 4 v g hh ht
  cases v with
  | item i => exact f.elim
  | app1 z a =>
    have ha : a.h ≤ 4 := by simp only [Vv.h] at hh; omega
    have u := use_ok (v := a) g.2 ha ht f
    simp only [Vv.t] at m ⊢
    simp only [mayCall, m, Option.isSome, List.all_cons, List.all_nil, u, Bool.and_self]
  | app2 z a b =>
    have ha : a.h ≤ 4 := by simp only [Vv.h] at hh; split at hh <;> omega
    have hb : b.h ≤ 4 := by simp only [Vv.h] at hh; split at hh <;> omega
    have ta : a.top ≤ 3 := by simp only [Vv.top] at ht; split at ht <;> omega
    have tb : b.top ≤ 3 := by simp only [Vv.top] at ht; split at ht <;> omega
    have u := use_ok (v := a) g.2.1 ha ta f.1
    have u2 := use_ok (v := b) g.2.2 hb tb f.2
    simp only [Vv.t] at m ⊢
    simp only [mayCall, m, Option.isSome, List.all_cons, List.all_nil, u, u2, Bool.and_self]
theorem fitT.tup {t : T} {at_ : Int} {kn : Kn} (h : fitT t at_ kn) : ∃ xs, t = .tup xs := by
  obtain ⟨v, rfl, _, _, _, f⟩ := h.ex
  cases v with
  | item i => exact f.elim
  | app1 z a => exact ⟨_, rfl⟩
  | app2 z a b => exact ⟨_, rfl⟩
theorem fitT.ok {t : T} {at_ : Int} {kn : Kn} (h : fitT t at_ kn) : okT t = true ∧ t.p.depth ≤ 4 ∧ size t ≤ 64 := by
  obtain ⟨v, rfl, g, hh, ht, f⟩ := h.ex
  obtain ⟨h1, h2, h3⟩ := ok_vv v g
  have := vv_size 4 v hh
  exact ⟨h1, by omega, by omega⟩
/-! conditions with the law's terms -/
mutual
def fitC : Cn → Int → Kn → Prop
  | .ask t _, at_, kn => fitT t at_ kn
  | .con _ ps, at_, kn => 1 < ps.length ∧ fitCs ps at_ kn
  | .qu _ t c, at_, kn => fitT t at_ kn ∧ at_ + 1 ≤ 3 ∧ fitC c (at_ + 1) kn
def fitCs : List Cn → Int → Kn → Prop
  | [], _, _ => True
  | c :: cs, at_, kn => fitC c at_ kn ∧ fitCs cs at_ kn
end
mutual
def asks : Cn → Nat
  | .ask _ _ => 1
  | .con _ ps => askss ps
  | .qu _ _ c => asks c
def askss : List Cn → Nat
  | [] => 0
  | c :: cs => asks c + askss cs
end
theorem fitCs_append (at_ : Int) (kn : Kn) : ∀ {xs ys : List Cn}, fitCs xs at_ kn → fitCs ys at_ kn → fitCs (xs ++ ys) at_ kn
  | [], ys, _, h => h
  | x :: xs, ys, h, h2 => ⟨h.1, fitCs_append at_ kn h.2 h2⟩
theorem askss_append : ∀ (xs ys : List Cn), askss (xs ++ ys) = askss xs + askss ys
  | [], ys => by simp [askss]
  | x :: xs, ys => by simp only [List.cons_append, askss, askss_append xs ys]; omega
theorem hts_append : ∀ (xs ys : List Cn), hts (xs ++ ys) = max (hts xs) (hts ys)
  | [], ys => by simp [hts]
  | x :: xs, ys => by simp only [List.cons_append, hts, hts_append xs ys]; omega
theorem fit_flat1 {a : Bool} {c : Cn} {at_ : Int} {kn : Kn} (h : fitC c at_ kn) : fitCs (flat1 a c) at_ kn ∧ 1 ≤ (flat1 a c).length ∧ askss (flat1 a c) = asks c ∧ hts (flat1 a c) ≤ ht c := by
  cases c with
  | con b qs =>
    by_cases hb : b = a
    · simp only [flat1, hb, if_true, asks, ht]
      exact ⟨h.2, by have := h.1; omega, (by first | rfl | trivial), by omega⟩
    · simp only [flat1, hb, if_false]
      exact ⟨⟨h, trivial⟩, by simp, by simp [askss], by simp [hts]⟩
  | ask t w => exact ⟨⟨h, trivial⟩, by simp [flat1], by simp [flat1, askss], by simp [flat1, hts]⟩
  | qu b t c => exact ⟨⟨h, trivial⟩, by simp [flat1], by simp [flat1, askss], by simp [flat1, hts]⟩
theorem fit_flatC {a : Bool} {at_ : Int} {kn : Kn} : ∀ {ps : List Cn}, fitCs ps at_ kn → fitCs (flatC a ps) at_ kn ∧ ps.length ≤ (flatC a ps).length ∧ askss (flatC a ps) = askss ps ∧ hts (flatC a ps) ≤ hts ps
  | [], _ => ⟨trivial, Nat.le_refl _, rfl, Nat.le_refl _⟩
  | p :: ps, h => by
    obtain ⟨h1, h2, h3, h4⟩ := fit_flatC (a := a) h.2
    obtain ⟨k1, k2, k3, k4⟩ := fit_flat1 (a := a) h.1
    have e : flatC a (p :: ps) = flat1 a p ++ flatC a ps := by simp [flatC]
    rw [e]
    refine ⟨fitCs_append _ _ k1 h1, ?_, ?_, ?_⟩
    · rw [List.length_append]; simp only [List.length_cons]; omega
    · rw [askss_append, k3, h3]; rfl
    · rw [hts_append]; simp only [hts]; omega
mutual
theorem fit_settled (b : Bool) : ∀ (c : Cn) (at_ : Int) (kn : Kn), fitC c at_ kn → fitC (settledC c b) at_ kn ∧ asks (settledC c b) = asks c ∧ ht (settledC c b) ≤ ht c
  | .ask t w, at_, kn, h => ⟨h, rfl, Nat.le_refl _⟩
  | .con a ps, at_, kn, h => by
    obtain ⟨h1, h2, h3, h4⟩ := fit_settleds b ps at_ kn h.2
    obtain ⟨k1, k2, k3, k4⟩ := fit_flatC (a := a == b) h1
    have := h.1
    refine ⟨⟨by omega, k1⟩, ?_, ?_⟩
    · simp only [settledC, asks]; omega
    · simp only [settledC, ht]; omega
  | .qu a t c, at_, kn, h => by
    obtain ⟨h1, h2, h3⟩ := fit_settled b c _ kn h.2.2
    exact ⟨⟨h.1, h.2.1, h1⟩, h2, by simp only [settledC, ht]; omega⟩
theorem fit_settleds (b : Bool) : ∀ (cs : List Cn) (at_ : Int) (kn : Kn), fitCs cs at_ kn → fitCs (settledCs cs b) at_ kn ∧ (settledCs cs b).length = cs.length ∧ askss (settledCs cs b) = askss cs ∧ hts (settledCs cs b) ≤ hts cs
  | [], at_, kn, h => ⟨trivial, rfl, rfl, Nat.le_refl _⟩
  | c :: cs, at_, kn, h => by
    obtain ⟨h1, h2, h3⟩ := fit_settled b c at_ kn h.1
    obtain ⟨k1, k2, k3, k4⟩ := fit_settleds b cs at_ kn h.2
    refine ⟨⟨h1, k1⟩, ?_, ?_, ?_⟩
    · simp only [settledCs, List.length_cons]; omega
    · simp only [settledCs, askss]; omega
    · simp only [settledCs, hts]; omega
end

theorem shaped_ask {t : T} {w : Bool} : shaped (Cn.ask t w).t = true := by
  simp only [Cn.t]
  cases t <;> rfl
theorem shaped_con {a : Bool} {ps : List Cn} (h : 1 < ps.length) : shaped (Cn.con a ps).t = true := by
  simp only [Cn.t, shaped, Bool.and_eq_true]
  refine ⟨by cases a <;> rfl, ?_⟩
  rw [Cn.ts_map, List.length_map]
  exact decide_eq_true h
theorem shaped_qu {a : Bool} {t : T} {c : Cn} : shaped (Cn.qu a t c).t = true := by
  simp only [Cn.t]
  cases a <;> cases t <;> rfl
abbrev CJob := Cn × Int × Int
def jb (q : CJob) : Job := (q.1.t, q.2.1, q.2.2)
def fitJ (kn : Kn) (q : CJob) : Prop := fitC q.1 q.2.1 kn ∧ q.2.1 ≤ 3 ∧ q.2.2 + ht q.1 ≤ 101
def asksJ : List CJob → Nat
  | [] => 0
  | q :: qs => asks q.1 + asksJ qs
theorem asksJ_append : ∀ a b : List CJob, asksJ (a ++ b) = asksJ a + asksJ b
  | [], b => by simp [asksJ]
  | q :: a, b => by simp only [List.cons_append, asksJ, asksJ_append a b]; omega
theorem asksJ_map (at_ nest : Int) : ∀ ps : List Cn, asksJ (ps.map fun p => (p, at_, nest)) = askss ps
  | [] => rfl
  | p :: ps => by simp only [List.map_cons, asksJ, askss, asksJ_map at_ nest ps]
theorem askss_reverse : ∀ ps : List Cn, askss ps.reverse = askss ps
  | [] => rfl
  | p :: ps => by simp only [List.reverse_cons, askss_append, askss, askss_reverse ps]; omega
theorem fitCs_mem {at_ : Int} {kn : Kn} : ∀ {ps : List Cn} {p : Cn}, fitCs ps at_ kn → p ∈ ps → fitC p at_ kn
  | q :: qs, p, h, m => by
    rcases List.mem_cons.mp m with e | m
    · rw [e]; exact h.1
    · exact fitCs_mem h.2 m
theorem ht_pos (c : Cn) : 1 ≤ ht c := by cases c <;> simp [ht]
theorem step_fit {q : CJob} {count : Int} {known : Kn} (h : fitJ known q) : ∃ new : List CJob, ∃ k : Nat, condStep (jb q) count known = some (new.map jb, count + k) ∧ (∀ x ∈ new, fitJ known x) ∧ asksJ new + k = asks q.1 := by
  obtain ⟨c, at_, nest⟩ := q
  obtain ⟨h1, h2, h3⟩ := h
  simp only at h1 h2 h3
  have hp := ht_pos c
  have hn : ¬ nest > 100 := by omega
  have ha : ¬ at_ > 3 := by omega
  cases c with
  | ask t w =>
    have g : fitT t at_ known := h1
    obtain ⟨xs, rfl⟩ := g.tup
    refine ⟨[], 1, ?_, (fun _ h => nomatch h), rfl⟩
    unfold condStep
    rw [if_neg (by rw [show (jb (Cn.ask (.tup xs) w, at_, nest)).1 = (Cn.ask (.tup xs) w).t from rfl, shaped_ask]; intro hh; rcases hh with hh | hh | hh; exact hn hh; exact ha hh; cases hh)]
    show (if mayCall (.tup xs) at_ known = false then none else if (Str.ofString "ask") = ("ask" : Str) then some (([] : List Job), count + 1) else _) = _
    rw [if_neg (by rw [g.call]; decide), if_pos rfl]
    rfl
  | con a ps =>
    refine ⟨ps.reverse.map fun p => (p, at_, nest + 1), 0, ?_, fun x hx => ?_, ?_⟩
    · unfold condStep
      rw [if_neg (by rw [show (jb (Cn.con a ps, at_, nest)).1 = (Cn.con a ps).t from rfl, shaped_con h1.1]; intro hh; rcases hh with hh | hh | hh; exact hn hh; exact ha hh; cases hh)]
      show some ((Cn.ts ps).reverse.map (fun p => (p, at_, nest + 1)), count) = _
      rw [Cn.ts_map, ← List.map_reverse, List.map_map, List.map_map]
      simp
      intro _ _
      rfl
    · obtain ⟨p, hp', rfl⟩ := List.mem_map.mp hx
      have hp' := List.mem_reverse.mp hp'
      have := hts_mem hp'
      simp only [ht] at h3
      exact ⟨fitCs_mem h1.2 hp', h2, by show nest + 1 + (ht p : Int) ≤ 101; omega⟩
    · rw [asksJ_map, askss_reverse]; rfl
  | qu a t c =>
    obtain ⟨g, h4, h5⟩ := h1
    obtain ⟨xs, rfl⟩ := g.tup
    simp only [ht] at h3
    refine ⟨[(c, at_ + 1, nest + 1)], 0, ?_, fun x hx => ?_, ?_⟩
    · unfold condStep
      rw [if_neg (by rw [show (jb (Cn.qu a (.tup xs) c, at_, nest)).1 = (Cn.qu a (.tup xs) c).t from rfl, shaped_qu]; intro hh; rcases hh with hh | hh | hh; exact hn hh; exact ha hh; cases hh)]
      show (if mayCall (.tup xs) at_ known = false then none else if qw a = ("ask" : Str) then some (([] : List Job), count + 1) else some ([(c.t, at_ + 1, nest + 1)], count)) = _
      have hq : ¬ qw a = ("ask" : Str) := by
        have := qw_ask a
        intro z; rw [this] at z; exact z
      rw [if_neg (by rw [g.call]; decide), if_neg hq]
      simp
      rfl
    · cases List.mem_singleton.mp hx
      exact ⟨h5, h4, by show nest + 1 + (ht c : Int) ≤ 101; omega⟩
    · simp [asksJ, asks]
theorem loop_fit (known : Kn) : ∀ (fuel : Nat) (qs : List CJob) (count : Int), (∀ q ∈ qs, fitJ known q) → count + asksJ qs ≤ 400 → wt (qs.map jb) ≤ fuel → condLoop fuel (qs.map jb) count known = some true := by
  intro fuel
  induction fuel with
  | zero =>
    intro qs count h1 h2 h3
    cases qs with
    | nil => rfl
    | cons q qs => have := size_pos (jb q).1; simp only [List.map_cons, wt] at h3; omega
  | succ f ih =>
    intro qs count h1 h2 h3
    cases qs with
    | nil => rfl
    | cons q qs =>
      obtain ⟨new, k, e1, e2, e3⟩ := step_fit (count := count) (known := known) (h1 q List.mem_cons_self)
      simp only [List.map_cons, condLoop, e1]
      simp only [asksJ] at h2
      rw [if_neg (by omega), ← List.map_append]
      have hw := (condStep_wt e1).1
      refine ih (new ++ qs) _ (fun x hx => ?_) ?_ ?_
      · rcases List.mem_append.mp hx with hx | hx
        · exact e2 x hx
        · exact h1 x (List.mem_cons_of_mem _ hx)
      · rw [asksJ_append]; omega
      · rw [List.map_append, wt_append]
        simp only [List.map_cons, wt] at h3
        simp only at hw
        omega
theorem isCondK_fit {c : Cn} {at_ : Int} {kn : Kn} (h : fitC c at_ kn) (h3 : at_ ≤ 3) (hh : ht c ≤ 100) (ha : asks c ≤ 400) : isCondK c.t at_ kn = true := by
  unfold isCondK
  have := loop_fit kn (size c.t) [(c, at_, 1)] 0 (fun q hq => by cases List.mem_singleton.mp hq; exact ⟨h, h3, by show (1 : Int) + ht c ≤ 101; omega⟩) (by simp only [asksJ]; omega) (by simp [wt, jb])
  rw [show [(c.t, at_, (1 : Int))] = [(c, at_, (1 : Int))].map jb from rfl, this]
  rfl

theorem isCond_fit {c : Cn} {at_ : Int} (h : fitC c at_ at_) (h3 : at_ ≤ 3) (hh : ht c ≤ 100) (ha : asks c ≤ 400) : isCond c.t at_ = true := isCondK_fit h h3 hh ha
theorem ok_cw (a : Bool) : okT (.str (cw a)) = true := by cases a <;> decide +kernel
theorem ok_qw (a : Bool) : okT (.str (qw a)) = true := by cases a <;> decide +kernel
mutual
theorem fit_ok : ∀ (c : Cn) (at_ : Int) (kn : Kn), fitC c at_ kn → okT c.t = true ∧ c.t.p.depth ≤ 2 * ht c + 4 ∧ size c.t ≤ 72 * csize c
  | .ask t w, at_, kn, h => by
    have h0 : okT (.str "ask") = true := by decide +kernel
    obtain ⟨h1, h2, h3⟩ := fitT.ok h
    refine ⟨?_, ?_, ?_⟩
    · simp only [Cn.t, okT, okTs, Bool.and_true] at *
      rw [h0, h1]; rfl
    · simp only [Cn.t, T.p, T.pl, PyData.depth, PyData.depthAll, ht]; omega
    · simp only [Cn.t, size, sizes, csize]; omega
  | .con a ps, at_, kn, h => by
    obtain ⟨h1, h2, h3⟩ := fits_ok ps at_ kn h.2
    have h0 := ok_cw a
    refine ⟨?_, ?_, ?_⟩
    · simp only [Cn.t, okT, okTs, Bool.and_true] at *
      rw [h0, h1]; rfl
    · simp only [Cn.t, T.p, T.pl, PyData.depth, PyData.depthAll, ht]; omega
    · simp only [Cn.t, size, sizes, csize]; omega
  | .qu a t c, at_, kn, h => by
    obtain ⟨g, _, h5⟩ := h
    obtain ⟨t1, t2, t3⟩ := fitT.ok g
    obtain ⟨h1, h2, h3⟩ := fit_ok c _ kn h5
    have h0 := ok_qw a
    have hp := ht_pos c
    refine ⟨?_, ?_, ?_⟩
    · simp only [Cn.t, okT, okTs, Bool.and_true] at *
      rw [h0, h1, t1]; rfl
    · simp only [Cn.t, T.p, T.pl, PyData.depth, PyData.depthAll, ht]; omega
    · simp only [Cn.t, size, sizes, csize]; omega
theorem fits_ok : ∀ (cs : List Cn) (at_ : Int) (kn : Kn), fitCs cs at_ kn → okTs (Cn.ts cs) = true ∧ PyData.depthAll (T.pl (Cn.ts cs)) ≤ 2 * hts cs + 4 ∧ sizes (Cn.ts cs) ≤ 72 * csizes cs
  | [], at_, kn, h => ⟨rfl, by simp [Cn.ts, T.pl, PyData.depthAll], by simp [Cn.ts, sizes]⟩
  | c :: cs, at_, kn, h => by
    obtain ⟨h1, h2, h3⟩ := fit_ok c at_ kn h.1
    obtain ⟨k1, k2, k3⟩ := fits_ok cs at_ kn h.2
    refine ⟨?_, ?_, ?_⟩
    · simp only [Cn.ts, okTs, h1, k1, Bool.and_self]
    · simp only [Cn.ts, T.pl, PyData.depthAll, hts]; omega
    · simp only [Cn.ts, sizes, csizes]; omega
end
theorem fine_of {c : Cn} {at_ : Int} (h : fitC c at_ at_) (h1 : 1 ≤ at_) (h3 : at_ ≤ 3) (hh : ht c ≤ 100) (ha : asks c ≤ 400) (hc : csize c ≤ 10000) : Fine c 100 := by
  obtain ⟨k1, k2, k3⟩ := fit_ok c at_ at_ h
  refine ⟨k1, by omega, by omega, hh, by omega, ?_⟩
  have q := isCond_fit h h3 hh ha
  rcases (by omega : at_ = 1 ∨ at_ = 2 ∨ at_ = 3) with e | e | e
  · subst e; exact .inl q
  · subst e; exact .inr (.inl q)
  · subst e; exact .inr (.inr q)
theorem fine_settled {c : Cn} {at_ : Int} {b : Bool} (h : fitC c at_ at_) (h1 : 1 ≤ at_) (h3 : at_ ≤ 3) (hh : ht c ≤ 100) (ha : asks c ≤ 400) (hc : csize c ≤ 10000) : Fine (settledC c b) 100 := by
  obtain ⟨k1, k2, k3⟩ := fit_settled b c at_ at_ h
  exact fine_of k1 h1 h3 (by omega) (by omega) (by have := settled_size b c; omega)

/-- a list of data against the empty list -/
theorem deep_ts : ∀ ts : List T, (∀ t ∈ ts, okT t = true ∧ t.p.depth ≤ 300) → PyData.canLayAll0 (T.pl ts) = true ∧ PyData.depthAll (T.pl ts) ≤ 300
  | [], _ => ⟨rfl, Nat.zero_le _⟩
  | t :: ts, h => by
    obtain ⟨h1, h2⟩ := deep_ts ts fun x hx => h x (List.mem_cons_of_mem _ hx)
    obtain ⟨k1, k2⟩ := h t List.mem_cons_self
    constructor
    · simp only [T.pl, PyData.canLayAll0, Bool.and_eq_true]
      exact ⟨canLay_ok t k1, h1⟩
    · simp only [T.pl, PyData.depthAll]; omega
theorem ts_ne {C : CH} {p r : Addr} {ts : List T} {Q : Kv} (ok : ∀ t ∈ ts, okT t = true ∧ t.p.depth ≤ 300) (h : C p = some (.lst (T.ds ts))) (h2 : C r = some (.lst [])) (q : Q (.bl (!ts.isEmpty)) C) : oEqN not (.ref p) (.ref r) C Q := by
  obtain ⟨d1, d2⟩ := deep_ts ts ok
  refine ⟨.list (T.pl ts), .list [], .lst h (T.snaps C ts), .lst h2 .nil, ?_, by decide, ?_⟩
  · have e : (PyData.list (T.pl ts)).depth ≤ 350 := by
      show PyData.depthAll _ + 1 ≤ 350
      omega
    unfold deepOk
    rw [decide_eq_true e, Bool.and_true]
    exact d1
  · cases ts with
    | nil => exact q
    | cons j js => exact q
theorem atI_last {α : Type} {xs : List α} (h : xs ≠ []) : L2.atI xs (-1) = some (xs.getLast h) := by
  unfold L2.atI
  have hl : 0 < xs.length := List.length_pos_iff.mpr h
  have e : L2.ixN xs.length (-1) = some (xs.length - 1) := by
    unfold L2.ixN
    simp
    omega
  rw [e]
  show xs[xs.length - 1]? = _
  rw [List.getElem?_eq_getElem (by omega), List.getLast_eq_getElem]

/-! terms and conditions drawn -/
theorem height_ok : ∀ (r n : Nat) (v : Vv) (C : CH) (Q : Kv) (E : Kx), v.h ≤ r → Q (.int v.h) C → W (n + r + 1) i__law_height [v.t.d] C Q E := by
  intro r
  induction r with
  | zero =>
    intro n v C Q E hh hq
    rw [W__law_height]
    unfold b__law_height
    cases v with
    | item i => simp_arith! [Vv.t, T.d, GG_kit]; exact ⟨C, Sub.refl, hq⟩
    | app1 z a => have := a.h_nonneg; simp only [Vv.h] at hh; omega
    | app2 z a b => have := a.h_nonneg; have := b.h_nonneg; simp only [Vv.h] at hh; split at hh <;> omega
  | succ r ih =>
    intro n v C Q E hh hq
    rw [W__law_height]
    unfold b__law_height
    cases v with
    | item i => simp_arith! [Vv.t, T.d, GG_kit]; exact ⟨C, Sub.refl, hq⟩
    | app1 z a =>
      simp only [Vv.h] at hh
      simp_arith! [Vv.t, T.d, T.ds, GG_kit, cLc, iSeq, lcL, wipe3, cutD_tail, cYes, GG_call, List.nil_append]
      refine ih n a C _ _ (by omega) ?_
      intro p hp
      refine oMaxL1 cup_same ?_
      exact ⟨C, sub_new hp, hq⟩
    | app2 z a b =>
      have ha : a.h ≤ r := by simp only [Vv.h] at hh; split at hh <;> omega
      have hb : b.h ≤ r := by simp only [Vv.h] at hh; split at hh <;> omega
      simp_arith! [Vv.t, T.d, T.ds, GG_kit, cLc, iSeq, lcL, wipe3, cutD_tail, cYes, GG_call, List.nil_append, List.cons_append]
      refine ih n a C _ _ (by omega) ?_
      refine ih n b C _ _ (by omega) ?_
      intro p hp
      refine oMaxL2 cup_same ?_
      exact ⟨C, sub_new hp, hq⟩
/-- an own object of the base is written -/
theorem St.write {C0 C : CH} {s p : Addr} {N : Nat} {o o' : CO} (h : St (cup C0 p o) C s N) (hp : C0 p = none) : St (cup C0 p o') (cup C p o') s N := by
  obtain ⟨l, c, ls, cs, r, t, h, h2⟩ := h
  have ne : ∀ q, cup C0 p o q = none → q ≠ p ∧ C0 q = none := fun q e => by
    by_cases z : q = p
    · subst z; rw [cup_same] at e; cases e
    · rw [cup_ne z] at e; exact ⟨z, e⟩
  obtain ⟨n1, m1⟩ := ne _ h.s0
  obtain ⟨n2, m2⟩ := ne _ h.l0
  obtain ⟨n3, m3⟩ := ne _ h.c0
  refine ⟨l, c, ls, cs, r, t, ⟨by rw [cup_ne n1]; exact h.at_, by rw [cup_ne n2]; exact h.large, by rw [cup_ne n3]; exact h.cells, fun a u e => ?_, by rw [cup_ne n1]; exact m1, by rw [cup_ne n2]; exact m2, by rw [cup_ne n3]; exact m3, h.lc⟩, h2⟩
  by_cases z : a = p
  · subst z; rw [cup_same] at e ⊢; exact e
  · rw [cup_ne z] at e ⊢
    exact h.sub a u (by rw [cup_ne z]; exact e)
/-- drawn values: an item of the level, or one of the terms -/
structure Terms (vs : List Vv) : Prop where
  good : ∀ v ∈ vs, v.good ∧ v.h ≤ 4 ∧ v.top ≤ 3
  len : vs.length ≤ 100
def vds (vs : List Vv) : List D := T.ds (vs.map Vv.t)
theorem vds_map (vs : List Vv) : vds vs = vs.map fun v => v.t.d := by
  unfold vds
  rw [T.ds_map, List.map_map]
  rfl
theorem Terms.ok {vs : List Vv} (h : Terms vs) : ∀ t ∈ vs.map Vv.t, okT t = true ∧ t.p.depth ≤ 300 := fun t ht => by
  obtain ⟨v, hv, rfl⟩ := List.mem_map.mp ht
  obtain ⟨g, hh, _⟩ := h.good v hv
  obtain ⟨h1, h2, _⟩ := ok_vv v g
  exact ⟨h1, by omega⟩
theorem value_ok {n N : Nat} {C0 C : CH} {s p : Addr} {lv : Int} {vs : List Vv} {Q : Kv} {E : Kx} (h : St C0 C s (N + 3)) (hp : C0 p = some (.lst (vds vs))) (hv : Terms vs) (l1 : 1 ≤ lv) (l3 : lv ≤ 3)
    (hq : ∀ (v : Vv) C', (v ∈ vs ∨ ∃ i, v = .item i ∧ 1 ≤ i ∧ i ≤ lv) → St C0 C' s N → Q v.t.d C') : W (n + 3) i__law_value [.ref s, .int lv, .ref p] C Q E := by
  rw [W__law_value]
  unfold b__law_value
  rw [rdSs_cons]
  simp_arith [oLst, GG_call]
  intro r hr
  have hr0 : C0 r = none := by
    cases e : C0 r with
    | none => rfl
    | some u => rw [h.subC _ _ e] at hr; cases hr
  have h1 := h.alloc (o := .lst []) hr
  refine ts_ne hv.ok (cup_old hr (h.subC _ _ hp)) cup_same ?_
  have h1 := h1.drop (sub_new hr0)
  generalize cup C r (.lst []) = C1 at h1
  have tail : ∀ C', St C0 C' s (N + 2) → rdSs (GG (n + 2)) (exN E) (b__law_value.drop 1) (endN Q) [some (.ref s), some (.int lv), some (.ref p)] C' := by
    intro C' h'
    simp only [b__law_value, List.drop]
    simp_arith! [oLst, GG_call]
    refine draw_ok (N := N + 1) h' (by omega) (by omega) fun k C2 k1 k2 h2 => ?_
    intro q hq0
    have hq00 : C0 q = none := by
      cases e : C0 q with
      | none => rfl
      | some u => rw [h2.subC _ _ e] at hq0; cases hq0
    refine pick_ok (n := n) (N := N) (h2.alloc hq0) cup_same (by simp) (by simp) fun d C3 hd h3 => ?_
    have h3 := h3.drop (sub_new hq00)
    simp only [List.mem_cons, List.not_mem_nil, or_false] at hd
    rcases hd with e | e | e <;> (subst e; refine ⟨C3, Sub.refl, ?_⟩)
    · exact hq (.item lv) C3 (.inr ⟨lv, rfl, l1, Int.le_refl _⟩) h3
    · exact hq (.item lv) C3 (.inr ⟨lv, rfl, l1, Int.le_refl _⟩) h3
    · exact hq (.item (1 + k)) C3 (.inr ⟨1 + k, rfl, by omega, by omega⟩) h3
  by_cases hn : vs = []
  · subst hn
    simp_arith [List.map_nil, List.isEmpty]
    exact tail _ (h1.less (k := 1))
  · have e1 : (vs.map Vv.t).isEmpty = false := by cases vs <;> simp_all
    rw [e1]
    simp_arith []
    refine draw_ok (N := N + 2) h1 (by omega) (by omega) fun k C2 k1 k2 h2 => ?_
    by_cases hk : k = 0
    · subst hk
      have hp2 : C2 p = some (.lst (vds vs)) := h2.subC _ _ hp
      have hne : vds vs ≠ [] := by rw [vds_map]; simpa using hn
      have hla : L2.atI (vds vs) (-1) = some ((vds vs).getLast hne) := atI_last hne
      have hlm : ∀ d ∈ vds vs, ∃ v ∈ vs, d = v.t.d := fun d hd => by
        rw [vds_map] at hd
        obtain ⟨v, hv, e⟩ := List.mem_map.mp hd
        exact ⟨v, hv, e.symm⟩
      simp_arith [decide_true]
      rw [rdSs_cons]
      simp_arith [oLst, GG_call]
      refine oIxA_lst hp2 hla (oIxA_lst hp2 hla ?_)
      have hlen : (vds vs).length = vs.length := by rw [vds_map, List.length_map]
      have hpos : 0 < vs.length := List.length_pos_iff.mpr hn
      refine pick_ok (n := n) (N := N + 1) h2 hp (by omega) (by have := hv.len; omega) fun d C3 hd h3 => ?_
      intro q hq0
      have hq00 : C0 q = none := by
        cases e : C0 q with
        | none => rfl
        | some u => rw [h3.subC _ _ e] at hq0; cases hq0
      refine pick_ok (n := n) (N := N) (h3.alloc hq0) cup_same (by simp) (by simp) fun d' C4 hd' h4 => ?_
      have h4 := h4.drop (sub_new hq00)
      have hm : d' ∈ vds vs := by
        simp only [List.mem_cons, List.not_mem_nil, or_false] at hd'
        rcases hd' with e | e | e
        · rw [e]; exact List.getLast_mem hne
        · rw [e]; exact List.getLast_mem hne
        · rw [e]; exact hd
      obtain ⟨v, hv', rfl⟩ := hlm d' hm
      exact ⟨C4, Sub.refl, hq v C4 (.inl hv') h4⟩
    · simp_arith [hk, decide_false]
      exact tail _ h2
/-- a drawn term -/
structure FitV (v : Vv) (lv : Int) (kn : Kn) : Prop where
  good : v.good
  h : v.h ≤ 4
  top : v.top ≤ lv
  fit : v.fit lv kn
theorem FitV.t {v : Vv} {lv : Int} {kn : Kn} (h : FitV v lv kn) (l3 : lv ≤ 3) : fitT v.t lv kn := ⟨v, rfl, h.good, h.h, by have := h.top; omega, h.fit⟩
structure Names (zs : List Str) : Prop where
  good : ∀ z ∈ zs, goodNm z
  pos : 1 ≤ zs.length
  len : zs.length ≤ 100
theorem term_ok {n N : Nat} {C0 C : CH} {s pn pc : Addr} {lv : Int} {kn : Kn} {zs : List Str} {vs : List Vv} {Q : Kv} {E : Kx} (h : St C0 C s (N + 8)) (hn : C0 pn = some (.lst (zs.map D.str))) (hz : Names zs) (hc : C0 pc = some (.lst (vds vs))) (hv : Terms vs) (ht : ∀ v ∈ vs, kn.has v)
    (kl : ∀ v ∈ vs, v.top ≤ lv) (l1 : 1 ≤ lv) (l3 : lv ≤ 3) (hq : ∀ (v : Vv) C', FitV v lv kn → St C0 C' s N → Q v.t.d C') : W (n + 6) i__law_term [.ref s, .ref pn, .int lv, .ref pc] C Q E := by
  rw [W__law_term]
  unfold b__law_term
  have h100 : (1000 : Nat) ≤ sizeLine := by decide
  rw [rdSs_cons]
  simp_arith [cLc, iSeq]
  have hcC := h.subC _ _ hc
  refine ⟨_, hcC, ?_⟩
  rw [vds_map]
  rw [vds_map] at hcC
  refine lcL_if (fun v : Vv => v.t.d) (fun v : Vv => v.t.d) (fun v : Vv => decide (v.h < 4)) (G := fun C => C pc = some (.lst (vs.map fun v => v.t.d))) hcC vs (fun v hv' => ⟨_, rfl, fun Q' hQ => ?_, fun Q' hQ => ?_⟩) (by have := hv.len; omega) ?_
  · simp_arith! [wipe3, GG_call]
    refine height_ok 4 n v C _ _ (hv.good v hv').2.1 ?_
    simp_arith! []
    exact hQ
  · simp_arith! [wipe3]
    exact hQ
  · intro pl hpl
    have hpl0 := h.no hpl
    have h1 := h.alloc (o := .lst ((vs.filter fun v => decide (v.h < 4)).map fun v => v.t.d)) hpl
    have hn1 : ∀ o, cup C0 pl o pn = some (.lst (zs.map D.str)) := fun o => cup_old hpl0 hn
    have hl1 : cup C0 pl (.lst ((vs.filter fun v => decide (v.h < 4)).map fun v => v.t.d)) pl = some (.lst (vds (vs.filter fun v => decide (v.h < 4)))) := by rw [cup_same, vds_map]
    have hlow : Terms (vs.filter fun v => decide (v.h < 4)) := ⟨fun v hv' => hv.good v (List.mem_filter.mp hv').1, Nat.le_trans (List.length_filter_le _ _) hv.len⟩
    have hlow4 : ∀ v ∈ vs.filter fun v => decide (v.h < 4), v.h < 4 ∧ v ∈ vs := fun v hv' => ⟨of_decide_eq_true (List.mem_filter.mp hv').2, (List.mem_filter.mp hv').1⟩
    generalize (vs.filter fun v => decide (v.h < 4)) = low at h1 hl1 hlow hlow4
    rw [rdSs_cons]
    simp_arith [cLc, iRg1, GG_call]
    generalize hC1 : cup C0 pl (.lst (low.map fun v => v.t.d)) = C1 at h1 hl1
    have hn1 : C1 pn = some (.lst (zs.map D.str)) := by rw [← hC1]; exact hn1 _
    have s01 : Sub C0 C1 := by rw [← hC1]; exact sub_new hpl0
    refine draw_ok (n := n + 4) (N := N + 7) h1 (by decide) (by decide) fun k C2 k1 k2 h2 => ?_
    obtain ⟨j, rfl⟩ : ∃ j : Nat, k = j := ⟨k.toNat, by omega⟩
    refine ⟨_, rfl, by omega, by omega, ?_⟩
    have hjt : (rngD 0 (1 + (j : Int)).toNat).length = 1 + j := by simp [rngD]; omega
    refine lcL_run (fun k C => St C1 C s (N + 1 + 3 * k)) (fun d => ∃ v : Vv, d = v.t.d ∧ v.good ∧ v.h ≤ 3 ∧ v.top ≤ lv ∧ v.use lv kn) (fun _ _ _ => trivial) _ [] C2 ?_ (fun _ h => nomatch h) ?_ ?_ ?_
    · rw [hjt]; exact St.less (k := 6 - 3 * (1 + j)) (by rw [show N + 1 + 3 * (1 + j) + (6 - 3 * (1 + j)) = N + 7 by omega]; exact h2)
    · rw [hjt]; simp only [List.length_nil]; omega
    · intro acc C3 h3 hla hR p hp
      rw [hjt] at hla
      simp only [List.length_nil, Nat.zero_add] at hla
      have hp1 := h3.no hp
      have h4 := St.alloc (o := .lst acc) h3 hp
      have hacc : cup C1 p (.lst acc) p = some (.lst acc) := cup_same
      have hn4 : cup C1 p (.lst acc) pn = some (.lst (zs.map D.str)) := cup_old hp1 hn1
      have s04 : Sub C0 (cup C1 p (.lst acc)) := s01.trans (sub_new hp1)
      generalize cup C1 p (.lst acc) = C4 at h4 hacc hn4 s04
      simp_arith! [GG_call]
      refine pick_ok (n := n + 3) (N := N) h4 hn4 (by rw [List.length_map]; exact hz.pos) (by rw [List.length_map]; have := hz.len; omega) fun d C5 hd h5 => ?_
      obtain ⟨z, hz', rfl⟩ := List.mem_map.mp hd
      have gz := hz.good z hz'
      refine ⟨_, acc, rfl, SqC_ref.mpr (h5.subC _ _ hacc), ?_⟩
      have h6 := h5.drop s04
      match acc, hla, hR with
      | [d1], _, hR =>
        obtain ⟨a, rfl, a1, a2, a3, a4⟩ := hR d1 (by simp)
        simp_arith! []
        refine ⟨C5, Sub.refl, hq (.app1 z a) C5 ⟨⟨gz, a1⟩, by simp only [Vv.h]; omega, a3, a4⟩ h6⟩
      | [d1, d2], _, hR =>
        obtain ⟨a, rfl, a1, a2, a3, a4⟩ := hR d1 (by simp)
        obtain ⟨b, rfl, b1, b2, b3, b4⟩ := hR d2 (by simp)
        simp_arith! []
        refine ⟨C5, Sub.refl, hq (.app2 z a b) C5 ⟨⟨gz, a1, b1⟩, by simp only [Vv.h]; split <;> omega, by simp only [Vv.top]; split <;> omega, a4, b4⟩ h6⟩
      | [], hl, _ => simp only [List.length_nil] at hl; omega
      | _ :: _ :: _ :: _, hl, _ => simp only [List.length_cons] at hl; omega
    · intro d hd k C3 h3
      refine ⟨_, rfl, fun Q' hQ => ?_⟩
      simp_arith! [wipe3, GG_call]
      refine value_ok (n := n + 2) (N := N + 1 + 3 * k) (by rw [show N + 1 + 3 * k + 3 = N + 1 + 3 * (k + 1) by omega]; exact h3) hl1 hlow l1 l3 fun v C4 hv' h4 => hQ _ _ ⟨v, rfl, ?_⟩ h4
      rcases hv' with hv' | ⟨i, rfl, i1, i2⟩
      · obtain ⟨g1, g2, g3⟩ := hlow.good v hv'
        obtain ⟨g4, g5⟩ := hlow4 v hv'
        have g6 := ht v g5
        have g7 := kl v g5
        refine ⟨g1, by omega, by omega, ?_⟩
        cases v with
        | item i => simp only [Vv.use, Vv.top] at *; omega
        | app1 z a => exact g6
        | app2 z a b => exact g6
      · exact ⟨i1, by simp [Vv.h], i2, i2⟩
theorem ask_d {t : T} {w : Bool} : (Cn.ask t w).t.d = .tup [.str "ask", t.d, .bl w] := by simp only [Cn.t, T.d, T.ds]
theorem qu_d {a : Bool} {t : T} {c : Cn} : (Cn.qu a t c).t.d = .tup [.str (qw a), t.d, c.t.d] := by simp only [Cn.t, T.d, T.ds]
theorem con_d {a : Bool} {ps : List Cn} : (Cn.con a ps).t.d = .tup [.str (cw a), .tup (ps.map fun c => c.t.d)] := by simp only [Cn.t, T.d, T.ds, ds_ts]
theorem qw_mem {d : D} (h : d ∈ [D.str (Str.ofString "any"), D.str (Str.ofString "all")]) : ∃ a, d = .str (qw a) := by
  simp only [List.mem_cons, List.not_mem_nil, or_false] at h
  rcases h with e | e
  · exact ⟨true, e⟩
  · exact ⟨false, e⟩
theorem cw_mem {d : D} (h : d ∈ [D.str (Str.ofString "and"), D.str (Str.ofString "or")]) : ∃ a, d = .str (cw a) := by
  simp only [List.mem_cons, List.not_mem_nil, or_false] at h
  rcases h with e | e
  · exact ⟨true, e⟩
  · exact ⟨false, e⟩
/-- what a drawn condition is -/
structure Drawn (c : Cn) (lv : Int) (kn : Kn) (r : Nat) : Prop where
  fit : fitC c lv kn
  asks : asks c ≤ r
  size : csize c + 1 ≤ 2 * r
  ht : ht c ≤ r
theorem drawn_con {a : Bool} {lv : Int} {kn : Kn} {r q : Nat} : ∀ {cs : List Cn}, (∀ c ∈ cs, Drawn c lv kn q) → fitCs cs lv kn ∧ askss cs ≤ cs.length * q ∧ csizes cs + cs.length ≤ 2 * (cs.length * q) ∧ hts cs ≤ q
  | [], _ => ⟨trivial, by simp [askss], by simp [csizes], by simp [hts]⟩
  | c :: cs, h => by
    obtain ⟨h1, h2, h3, h4⟩ := drawn_con (a := a) (r := r) fun x hx => h x (List.mem_cons_of_mem _ hx)
    have d := h c List.mem_cons_self
    have d2 := d.asks
    have d3 := d.size
    have d4 := d.ht
    refine ⟨⟨d.fit, h1⟩, ?_, ?_, ?_⟩
    · simp only [askss, List.length_cons, Nat.add_mul]; omega
    · simp only [csizes, List.length_cons, Nat.add_mul, Nat.mul_add]; omega
    · simp only [hts]; omega
theorem cond_ok : ∀ (r m N : Nat) (C0 C : CH) (s pn pc : Addr) (lv : Int) (kn : Kn) (zs : List Str) (vs : List Vv) (Q : Kv) (E : Kx), 1 ≤ r → r ≤ m + 1 → r ≤ 1000 → St C0 C s (N + 24 * r) → C0 pn = some (.lst (zs.map D.str)) → Names zs → C0 pc = some (.lst (vds vs)) → Terms vs → (∀ v ∈ vs, kn.has v) → (∀ v ∈ vs, v.top ≤ lv) → 1 ≤ lv → lv ≤ 3 →
    (∀ (c : Cn) C', Drawn c lv kn r → St C0 C' s (N + 4) → Q c.t.d C') → W (m + 7) i__law_condition [.ref s, .ref pn, .int lv, .ref pc, .int r] C Q E := by
  intro r
  induction r using Nat.strongRecOn with
  | ind r ih =>
  intro m N C0 C s pn pc lv kn zs vs Q E r1 rm rK h hn hz hc hv ht kl l1 l3 hq
  rw [W__law_condition]
  unfold b__law_condition
  have key : ∀ (way : Int) (C1 : CH), St C0 C1 s (N + 24 * r - 1) → (2 ≤ way → 2 ≤ r) → rdSs (GG (m + 6)) (exN E) (b__law_condition.drop 1) (endN Q) [some (.ref s), some (.ref pn), some (.int lv), some (.ref pc), some (.int r), some (.int way), none, none, none, none] C1 := by
    intro way C1 h1 hw
    simp only [b__law_condition, List.drop]
    rw [rdSs_cons]
    simp_arith []
    by_cases c1 : 4 < way ∧ lv < 3
    · obtain ⟨c1, c2⟩ := c1
      have hr2 := hw (by omega)
      obtain ⟨k, rfl⟩ : ∃ k, m = k + 1 := ⟨m - 1, by omega⟩
      rw [if_pos (decide_eq_true c1), if_pos (decide_eq_true c2)]
      rw [rdSs_cons]
      simp_arith [GG_call]
      have e1 : (r : Int) - 1 = ((r - 1 : Nat) : Int) := by omega
      rw [e1]
      refine ih (r - 1) (by omega) k (N + 19) C0 C1 s pn pc (lv + 1) kn zs vs _ _ (by omega) (by omega) (by omega) (h1.le (by omega)) hn hz hc hv ht (fun v hv' => by have := kl v hv'; omega) (by omega) (by omega) fun c C2 hd h2 => ?_
      rw [rdSs_cons]
      simp_arith [oLst, GG_call]
      intro q hq0
      refine pick_ok (n := k + 5) (N := N + 22) (h2.alloc hq0) cup_same (by simp) (by simp) fun d C3 hd' h3 => ?_
      have h3 := h3.drop (sub_new (h2.no hq0))
      refine term_ok (n := k + 1) (N := N + 14) (C0 := C0) (lv := lv) (kn := kn) (h3.le (by omega)) hn hz hc hv ht kl l1 l3 fun v C4 fv h4 => ?_
      obtain ⟨a, rfl⟩ := qw_mem hd'
      have d1 := hd.asks
      have d2 := hd.size
      have d3 := hd.ht
      have fin := hq (.qu a v.t c) C4 ⟨⟨fv.t l3, by omega, hd.fit⟩, by simp only [asks]; omega, by simp only [csize]; omega, by simp only [My.ht]; omega⟩ (h4.le (by omega))
      rw [qu_d] at fin
      exact ⟨C4, Sub.refl, fin⟩
    · have hif : ∀ (X Y : Prop), (if decide (4 < way) = true then (if decide (lv < 3) = true then X else Y) else Y) ↔ Y := by
        intro X Y
        by_cases q1 : 4 < way
        · have q2 : ¬ lv < 3 := fun z => c1 ⟨q1, z⟩
          simp [q1, q2]
        · simp [q1]
      rw [hif]
      rw [rdSs_cons]
      simp_arith []
      by_cases c2 : way < 2 ∨ 4 < way
      · have hif2 : ∀ (X Y : Prop), (if decide (way < 2) = true then X else if decide (4 < way) = true then X else Y) ↔ X := by
          intro X Y
          rcases c2 with q | q
          · simp [q]
          · simp [q]
        rw [hif2]
        rw [rdSs_cons]
        simp_arith [GG_call]
        refine term_ok (n := m) (N := N + 14) (C0 := C0) (lv := lv) (kn := kn) (h1.le (by omega)) hn hz hc hv ht kl l1 l3 fun v C2 fv h2 => ?_
        refine draw_ok (n := m + 5) (N := N + 13) h2 (by decide) (by decide) fun k C3 _ _ h3 => ?_
        have fin := hq (.ask v.t (decide (k = 0))) C3 ⟨fv.t l3, by simp only [asks]; omega, by simp only [csize]; omega, by simp only [My.ht]; omega⟩ (h3.le (by omega))
        rw [ask_d] at fin
        simp_arith []
        exact ⟨C3, Sub.refl, fin⟩
      · have hif2 : ∀ (X Y : Prop), (if decide (way < 2) = true then X else if decide (4 < way) = true then X else Y) ↔ Y := by
          intro X Y
          have q1 : ¬ way < 2 := fun z => c2 (.inl z)
          have q2 : ¬ 4 < way := fun z => c2 (.inr z)
          simp [q1, q2]
        rw [hif2]
        have hr2 := hw (by omega)
        obtain ⟨j, rfl⟩ : ∃ j, m = j + 1 := ⟨m - 1, by omega⟩
        rw [rdSs_cons]
        simp_arith [GG_call, oMin2]
        refine ⟨_, _, ⟨rfl, rfl⟩, ?_⟩
        refine draw_ok (n := j + 6) (N := N + 24 * r - 2) (h1.le (by omega)) (by split <;> omega) (by split <;> omega) fun k C2 k0 k2 h2 => ?_
        obtain ⟨kk, rfl⟩ : ∃ kk : Nat, k = kk := ⟨k.toNat, by omega⟩
        have km : kk ≤ 1 ∧ 2 + kk ≤ r := by split at k2 <;> omega
        obtain ⟨q, hq0⟩ : ∃ q : Nat, q = r / (2 + kk) := ⟨_, rfl⟩
        have hqr : (2 + kk) * q ≤ r := by rw [hq0]; exact Nat.mul_div_le r (2 + kk)
        have hq1 : 1 ≤ q := by rw [hq0]; exact (Nat.one_le_div_iff (by omega)).mpr km.2
        have hqr1 : q < r := by rw [hq0]; exact Nat.div_lt_self (by omega) (by omega)
        have efd : Int.fdiv (r : Int) (2 + (kk : Int)) = (q : Int) := by
          rw [hq0, show (2 : Int) + (kk : Int) = ((2 + kk : Nat) : Int) by omega, Int.fdiv_eq_ediv_of_nonneg _ (by omega)]
          exact (Int.natCast_ediv _ _).symm
        simp_arith []
        rw [rdSs_cons]
        simp_arith [cLc, iRg1, GG_call]
        refine ⟨by omega, by omega, ?_⟩
        have hjt : (rngD 0 (2 + (kk : Int)).toNat).length = 2 + kk := by simp [rngD]; omega
        have h1000 : (1000 : Nat) ≤ sizeLine := by decide
        have hB : 24 * ((2 + kk) * q) ≤ 24 * r := by omega
        refine lcL_run (fun k C => St C0 C s (N + 6 + (24 * q - 4) * k)) (fun d => ∃ c, d = c.t.d ∧ Drawn c lv kn q) (fun _ _ _ => trivial) _ [] C2 ?_ (fun _ h => nomatch h) ?_ ?_ ?_
        · rw [hjt]
          refine h2.le ?_
          have e : (24 * q - 4) * (2 + kk) + 4 * (2 + kk) = 24 * ((2 + kk) * q) := by
            rw [← Nat.add_mul, show 24 * q - 4 + 4 = 24 * q by omega, Nat.mul_assoc, Nat.mul_comm q]
          omega
        · rw [hjt]; simp only [List.length_nil]; omega
        · intro acc C3 h3 hla hR p hp
          rw [hjt] at hla
          simp only [List.length_nil, Nat.zero_add] at hla
          obtain ⟨cs, rfl, hcs⟩ : ∃ cs : List Cn, acc = cs.map (fun c => c.t.d) ∧ ∀ c ∈ cs, Drawn c lv kn q := by
            clear hla hp
            induction acc with
            | nil => exact ⟨[], rfl, fun _ h => nomatch h⟩
            | cons a acc ih =>
              obtain ⟨cs, e, h⟩ := ih fun d hd => hR d (List.mem_cons_of_mem _ hd)
              obtain ⟨c, e2, hc⟩ := hR a List.mem_cons_self
              refine ⟨c :: cs, by rw [e, e2]; rfl, fun x hx => ?_⟩
              rcases List.mem_cons.mp hx with z | hx
              · rw [z]; exact hc
              · exact h x hx
          rw [List.length_map] at hla
          have h4 := St.alloc (o := .lst (cs.map fun c => c.t.d)) h3 hp
          have hacc : cup C0 p (.lst (cs.map fun c => c.t.d)) p = some (.lst (cs.map fun c => c.t.d)) := cup_same
          have s04 := sub_new (o := .lst (cs.map fun c => c.t.d)) (h3.no hp)
          generalize cup C0 p (.lst (cs.map fun c => c.t.d)) = C4 at h4 hacc s04
          simp_arith! [oLst, GG_call]
          intro pq hpq
          refine pick_ok (n := j + 5) (N := N + 5) ((h4.alloc hpq).le (by omega)) cup_same (by simp) (by simp) fun d C5 hd' h5 => ?_
          have h5 := h5.drop (sub_new (h4.no hpq))
          obtain ⟨a, rfl⟩ := cw_mem hd'
          refine ⟨_, _, rfl, SqC_ref.mpr (h5.subC _ _ hacc), ?_⟩
          obtain ⟨f1, f2, f3, f4⟩ := drawn_con (a := a) (r := r) hcs
          rw [hla] at f2 f3
          have fin := hq (.con a cs) C5 ⟨⟨by omega, f1⟩, by simp only [asks]; omega, by simp only [csize]; omega, by simp only [My.ht]; omega⟩ ((h5.drop s04).le (by omega))
          rw [con_d] at fin
          exact ⟨C5, Sub.refl, fin⟩
        · intro d hd k C3 h3
          refine ⟨_, rfl, fun Q' hQ => ?_⟩
          simp_arith! [wipe3, GG_call]
          refine ⟨⟨by omega, by omega⟩, ?_⟩
          rw [efd]
          refine ih q hqr1 j (N + 2 + (24 * q - 4) * k) C0 C3 s pn pc lv kn zs vs _ _ hq1 (by omega) (by omega) (h3.le ?_) hn hz hc hv ht kl l1 l3 fun c C4 hd4 h4 => hQ _ _ ⟨c, rfl, hd4⟩ (h4.le (by omega))
          rw [Nat.mul_succ]; omega
  rw [rdSs_cons]
  simp_arith [GG_call]
  by_cases hr : 1 < (r : Int)
  · rw [if_pos (decide_eq_true hr)]
    refine draw_ok (n := m + 5) (N := N + 24 * r - 1) (h.le (by omega)) (by decide) (by decide) fun k C1 _ _ h1 => ?_
    exact key k C1 h1 fun _ => by omega
  · rw [if_neg (by simp [hr])]
    exact key 0 C (h.le (by omega)) fun z => by omega
theorem names_of : ∀ (ds : List D), (∀ d ∈ ds, ∃ z, d = D.str z ∧ goodNm z) → ∃ zs : List Str, ds = zs.map D.str ∧ ∀ z ∈ zs, goodNm z
  | [], _ => ⟨[], rfl, fun _ h => nomatch h⟩
  | d :: ds, h => by
    obtain ⟨zs, e, g⟩ := names_of ds fun x hx => h x (List.mem_cons_of_mem _ hx)
    obtain ⟨z, e2, g2⟩ := h d List.mem_cons_self
    refine ⟨z :: zs, by rw [e, e2]; rfl, fun y hy => ?_⟩
    rcases List.mem_cons.mp hy with r | r
    · rw [r]; exact g2
    · exact g y r

/-! joining: values -/
def vIn (w : Vv) (k : Int) : Vv → Vv
  | .item i => if i = 1 then w else .item (i + k - 1)
  | .app1 z a => .app1 z (vIn w k a)
  | .app2 z a b => .app2 z (vIn w k a) (vIn w k b)
theorem value_in_ok : ∀ (r n : Nat) (v w : Vv) (k : Int) (C : CH) (Q : Kv) (E : Kx), v.h ≤ r → Q (vIn w k v).t.d C → W (n + r + 1) i_value_in [v.t.d, w.t.d, .int k] C Q E := by
  have sl : (10 : Nat) ≤ sizeLine := by decide
  have base : ∀ (n : Nat) (i : Int) (w : Vv) (k : Int) (C : CH) (Q : Kv) (E : Kx), Q (vIn w k (.item i)).t.d C → W (n + 1) i_value_in [(Vv.item i).t.d, w.t.d, .int k] C Q E := by
    intro n i w k C Q E hq
    rw [W_value_in]
    unfold b_value_in
    have := hq
    by_cases h : i = 1
    · subst h
      simp_arith! [Vv.t, T.d, GG_kit, decide_true]
      exact ⟨C, Sub.refl, this⟩
    · simp_arith! [Vv.t, T.d, GG_kit, h, decide_false]
      simp only [vIn, h, if_false, Vv.t, T.d] at this
      exact ⟨C, Sub.refl, this⟩
  intro r
  induction r with
  | zero =>
    intro n v w k C Q E hh hq
    cases v with
    | item i => exact base n i w k C Q E hq
    | app1 z a => have := a.h_nonneg; simp only [Vv.h] at hh; omega
    | app2 z a b => have := a.h_nonneg; have := b.h_nonneg; simp only [Vv.h] at hh; split at hh <;> omega
  | succ r ih =>
    intro n v w k C Q E hh hq
    cases v with
    | item i => exact base (n + (r + 1)) i w k C Q E hq
    | app1 z a =>
      rw [W_value_in]
      unfold b_value_in
      simp only [Vv.h] at hh
      simp_arith! [Vv.t, T.d, T.ds, GG_kit, cTupS, cLc, iSeq, lcL, wipe3, cutD_tail, cYes, GG_call, List.nil_append]
      refine ih n a w k C _ _ (by omega) ?_
      intro p hp
      exact ⟨C, sub_new hp, hq⟩
    | app2 z a b =>
      rw [W_value_in]
      unfold b_value_in
      have ha : a.h ≤ r := by simp only [Vv.h] at hh; split at hh <;> omega
      have hb : b.h ≤ r := by simp only [Vv.h] at hh; split at hh <;> omega
      simp_arith! [Vv.t, T.d, T.ds, GG_kit, cTupS, cLc, iSeq, lcL, wipe3, cutD_tail, cYes, GG_call, List.nil_append, List.cons_append]
      refine ih n a w k C _ _ (by omega) ?_
      refine ih n b w k C _ _ (by omega) ?_
      intro p hp
      exact ⟨C, sub_new hp, hq⟩
theorem tallness_ok : ∀ (r n : Nat) (v : Vv) (C : CH) (Q : Kv) (E : Kx), v.h ≤ r → Q (.int v.h) C → W (n + r + 1) i_tallness [v.t.d] C Q E := by
  intro r
  induction r with
  | zero =>
    intro n v C Q E hh hq
    rw [W_tallness]
    unfold b_tallness
    cases v with
    | item i => simp_arith! [Vv.t, T.d, GG_kit]; exact ⟨C, Sub.refl, hq⟩
    | app1 z a => have := a.h_nonneg; simp only [Vv.h] at hh; omega
    | app2 z a b => have := a.h_nonneg; have := b.h_nonneg; simp only [Vv.h] at hh; split at hh <;> omega
  | succ r ih =>
    intro n v C Q E hh hq
    rw [W_tallness]
    unfold b_tallness
    cases v with
    | item i => simp_arith! [Vv.t, T.d, GG_kit]; exact ⟨C, Sub.refl, hq⟩
    | app1 z a =>
      simp only [Vv.h] at hh
      simp_arith! [Vv.t, T.d, T.ds, GG_kit, cLc, iSeq, lcL, wipe3, cutD_tail, cYes, GG_call, List.nil_append]
      refine ih n a C _ _ (by omega) ?_
      intro p hp
      refine oMaxL1 cup_same ?_
      exact ⟨C, sub_new hp, hq⟩
    | app2 z a b =>
      have ha : a.h ≤ r := by simp only [Vv.h] at hh; split at hh <;> omega
      have hb : b.h ≤ r := by simp only [Vv.h] at hh; split at hh <;> omega
      simp_arith! [Vv.t, T.d, T.ds, GG_kit, cLc, iSeq, lcL, wipe3, cutD_tail, cYes, GG_call, List.nil_append, List.cons_append]
      refine ih n a C _ _ (by omega) ?_
      refine ih n b C _ _ (by omega) ?_
      intro p hp
      refine oMaxL2 cup_same ?_
      exact ⟨C, sub_new hp, hq⟩

/-! joining: conditions -/
mutual
def vInT (w : T) (k : Int) : T → T
  | .int i => if i = 1 then w else .int (i + k - 1)
  | .tup xs => .tup (vInTs w k xs)
  | t => t
def vInTs (w : T) (k : Int) : List T → List T
  | [] => []
  | x :: xs => vInT w k x :: vInTs w k xs
end
theorem vInT_vv (w : Vv) (k : Int) : ∀ v : Vv, vInT w.t k v.t = (vIn w k v).t
  | .item i => by
    simp only [Vv.t, vInT, vIn]
    split <;> rfl
  | .app1 z a => by
    have e : vInT w.t k (.str z) = .str z := rfl
    simp only [Vv.t, vInT, vInTs, vIn, e, vInT_vv w k a]
  | .app2 z a b => by
    have e : vInT w.t k (.str z) = .str z := rfl
    simp only [Vv.t, vInT, vInTs, vIn, e, vInT_vv w k a, vInT_vv w k b]
structure tmV (r : Nat) (t : T) : Prop where
  ex : ∃ v : Vv, t = v.t ∧ v.h ≤ r
mutual
def tmsC (r : Nat) : Cn → Prop
  | .ask t _ => tmV r t
  | .con _ ps => 1 < ps.length ∧ tmsCs r ps
  | .qu _ t c => tmV r t ∧ tmsC r c
def tmsCs (r : Nat) : List Cn → Prop
  | [] => True
  | c :: cs => tmsC r c ∧ tmsCs r cs
end
theorem tmsCs_mem {r : Nat} : ∀ {cs : List Cn} {c : Cn}, tmsCs r cs → c ∈ cs → tmsC r c
  | d :: cs, c, h, m => by
    rcases List.mem_cons.mp m with e | m
    · rw [e]; exact h.1
    · exact tmsCs_mem h.2 m
mutual
theorem fitC.tms : ∀ {c : Cn} {lv : Int} {kn : Kn}, fitC c lv kn → tmsC 4 c
  | .ask t _, _, _, h => by obtain ⟨v, e, _, q, _⟩ := h; exact ⟨v, e, q⟩
  | .con _ ps, _, _, h => ⟨h.1, fitCs.tms h.2⟩
  | .qu _ t c, _, _, h => ⟨by obtain ⟨v, e, _, q, _⟩ := h.1; exact ⟨v, e, q⟩, fitC.tms h.2.2⟩
theorem fitCs.tms : ∀ {cs : List Cn} {lv : Int} {kn : Kn}, fitCs cs lv kn → tmsCs 4 cs
  | [], _, _, _ => trivial
  | c :: cs, _, _, h => ⟨fitC.tms h.1, fitCs.tms h.2⟩
end
mutual
def cIn (w : T) (k : Int) : Cn → Cn
  | .ask t b => .ask (vInT w k t) b
  | .con a ps => .con a (cIns w k ps)
  | .qu a t c => .qu a (vInT w k t) (cIn w k c)
def cIns (w : T) (k : Int) : List Cn → List Cn
  | [] => []
  | c :: cs => cIn w k c :: cIns w k cs
end
theorem cIns_map (w : T) (k : Int) : ∀ cs, cIns w k cs = cs.map (cIn w k)
  | [] => rfl
  | c :: cs => by rw [cIns, cIns_map w k cs]; rfl
/-- a depth that is great enough -/
theorem tm_at {r N f : Nat} {as : List D} {C : CH} {Q : Kv} {E : Kx} (h : r + 1 ≤ N) (k : ∀ m, W (m + r + 1) f as C Q E) : W N f as C Q E := by
  have e : N = (N - (r + 1)) + r + 1 := by omega
  rw [e]
  exact k _
theorem value_inT {n r : Nat} {t : T} {w : Vv} {k : Int} {C : CH} {Q : Kv} {E : Kx} (h : tmV r t) (hq : Q (vInT w.t k t).d C) : W (n + r + 1) i_value_in [t.d, w.t.d, .int k] C Q E := by
  obtain ⟨v, rfl, hh⟩ := h
  rw [vInT_vv] at hq
  exact value_in_ok r n v w k C Q E hh hq
theorem condition_in_ok (r : Nat) : ∀ (h n : Nat) (c : Cn) (w : Vv) (k : Int) (C : CH) (Q : Kv) (E : Kx), ht c ≤ h → csize c ≤ sizeLine → tmsC r c → Q (cIn w.t k c).t.d C → W (n + r + h + 2) i_condition_in [c.t.d, w.t.d, .int k] C Q E := by
  intro h
  induction h with
  | zero => intro n c w k C Q E hh; cases c <;> simp [ht] at hh
  | succ h ih =>
    intro n c w k C Q E hh hl ht' hq
    rw [W_condition_in]
    unfold b_condition_in
    cases c with
    | ask t b =>
      simp_arith! [Cn.t, T.d, T.ds, oEqN_strI so_ask so_ask, decide_true, GG_call]
      refine tm_at (by omega) (fun m => value_inT (n := m) ht' ?_)
      exact ⟨C, Sub.refl, hq⟩
    | con a ps =>
      simp only [ht] at hh
      simp only [csize] at hl
      simp_arith! [Cn.t, T.d, T.ds, oEqN_strI (so_cw a) so_ask, cw_ask, decide_false, cw_in]
      rw [ds_ts]
      simp_arith! [cLc, iSeq, oTuple]
      have hcl := csizes_len ps
      refine lcL_of (fun c : Cn => c.t.d) (fun c : Cn => (cIn w.t k c).t.d) trivial ps (fun c hc => ⟨_, rfl, fun Q' hQ => ?_⟩) (by omega) ?_
      · simp_arith! [wipe3, GG_call]
        refine ih n c w k C Q' _ ?_ ?_ (tmsCs_mem ht'.2 hc) hQ
        · have := hts_mem hc; omega
        · have := csizes_mem hc; omega
      · intro p hp
        refine ⟨C, sub_new hp, ?_⟩
        simpa [cIn, cIns_map, Cn.t, T.d, T.ds, T.ds_map, Cn.ts_map, List.map_map, Function.comp_def] using hq
    | qu a t c =>
      simp only [ht] at hh
      simp only [csize] at hl
      simp_arith! [Cn.t, T.d, T.ds, oEqN_strI (so_qw a) so_ask, qw_ask, decide_false, qw_in, GG_call]
      refine tm_at (by omega) (fun m => value_inT (n := m) ht'.1 ?_)
      refine ih n c w k C _ _ (by omega) (by omega) ht'.2 ?_
      exact ⟨C, Sub.refl, hq⟩
/-! the greatest of some numbers, none below zero -/
def maxs : List Int → Int
  | [] => 0
  | x :: xs => if maxs xs > x then maxs xs else x
theorem maxs_ge : ∀ {xs : List Int} {x : Int}, x ∈ xs → x ≤ maxs xs
  | y :: ys, x, h => by
    simp only [maxs]
    rcases List.mem_cons.mp h with e | h
    · subst e; split <;> omega
    · have := maxs_ge h; split <;> omega
theorem maxs_nn : ∀ {xs : List Int}, (∀ x ∈ xs, 0 ≤ x) → 0 ≤ maxs xs
  | [], _ => Int.le_refl _
  | y :: ys, h => by
    have h1 := h y List.mem_cons_self
    have h2 := maxs_nn (xs := ys) fun x hx => h x (List.mem_cons_of_mem _ hx)
    simp only [maxs]; split <;> omega
theorem maxs_one {y : Int} (h : 0 ≤ y) : maxs [y] = y := by
  show (if (0 : Int) > y then 0 else y) = y
  exact if_neg (by omega)
theorem maxs_two {x y : Int} (h : 0 ≤ y) : maxs [x, y] = if y > x then y else x := by
  have e : maxs [x, y] = if maxs [y] > x then maxs [y] else x := rfl
  rw [e, maxs_one h]
theorem maxs_mem : ∀ {xs : List Int}, (∀ x ∈ xs, 0 ≤ x) → xs ≠ [] → maxs xs ∈ xs
  | [y], h, _ => by
    have := h y List.mem_cons_self
    rw [maxs_one this]
    exact List.mem_cons_self
  | y :: z :: ys, h, _ => by
    have ih := maxs_mem (xs := z :: ys) (fun x hx => h x (List.mem_cons_of_mem _ hx)) (by simp)
    have e : maxs (y :: z :: ys) = if maxs (z :: ys) > y then maxs (z :: ys) else y := rfl
    rw [e]
    split
    · exact List.mem_cons_of_mem _ ih
    · exact List.mem_cons_self
theorem oMaxL_of {C : CH} {p : Addr} {ns : List Int} {Q : Kv} (h : C p = some (.lst (ns.map D.int))) (nn : ∀ x ∈ ns, 0 ≤ x) (hne : ns ≠ []) (q : Q (.int (maxs ns)) C) : oMaxL [.ref p] C Q :=
  ⟨p, ns, maxs ns, rfl, h, by cases ns <;> simp at hne ⊢, maxs_mem nn hne, fun y hy => maxs_ge hy, q⟩
mutual
def riseC : Cn → Int
  | .ask _ _ => 0
  | .con _ ps => maxs (riseCs ps)
  | .qu _ _ c => 1 + riseC c
def riseCs : List Cn → List Int
  | [] => []
  | c :: cs => riseC c :: riseCs cs
end
theorem riseCs_map : ∀ cs, riseCs cs = cs.map riseC
  | [] => rfl
  | c :: cs => by rw [riseCs, riseCs_map cs]; rfl
mutual
theorem rise_nn : ∀ c, 0 ≤ riseC c
  | .ask _ _ => Int.le_refl _
  | .con _ ps => maxs_nn (rises_nn ps)
  | .qu _ _ c => by have := rise_nn c; simp only [riseC]; omega
theorem rises_nn : ∀ cs, ∀ x ∈ riseCs cs, 0 ≤ x
  | [], x, h => nomatch h
  | c :: cs, x, h => by
    rcases List.mem_cons.mp h with e | h
    · rw [e]; exact rise_nn c
    · exact rises_nn cs x h
end
theorem rise_ok (r : Nat) : ∀ (h n : Nat) (c : Cn) (C : CH) (Q : Kv) (E : Kx), ht c ≤ h → csize c ≤ sizeLine → tmsC r c → Q (.int (riseC c)) C → W (n + h + 1) i_rise [c.t.d] C Q E := by
  intro h
  induction h with
  | zero => intro n c C Q E hh; cases c <;> simp [ht] at hh
  | succ h ih =>
    intro n c C Q E hh hl ht' hq
    rw [W_rise]
    unfold b_rise
    cases c with
    | ask t b =>
      simp_arith! [Cn.t, T.d, T.ds, oEqN_strI so_ask so_ask, decide_true]
      exact ⟨C, Sub.refl, hq⟩
    | con a ps =>
      simp only [ht] at hh
      simp only [csize] at hl
      simp_arith! [Cn.t, T.d, T.ds, oEqN_strI (so_cw a) so_ask, cw_ask, decide_false, cw_in]
      rw [ds_ts]
      simp_arith! [cLc, iSeq]
      have hcl := csizes_len ps
      refine lcL_of (fun c : Cn => c.t.d) (fun c : Cn => D.int (riseC c)) trivial ps (fun c hc => ⟨_, rfl, fun Q' hQ => ?_⟩) (by omega) ?_
      · simp_arith! [wipe3, GG_call]
        refine ih n c C Q' _ ?_ ?_ (tmsCs_mem ht'.2 hc) hQ
        · have := hts_mem hc; omega
        · have := csizes_mem hc; omega
      · intro p hp
        have hne : riseCs ps ≠ [] := by
          have := ht'.1
          rw [riseCs_map]
          intro e
          rw [List.map_eq_nil_iff] at e
          rw [e] at this
          simp at this
        refine oMaxL_of (ns := riseCs ps) (by rw [cup_same, riseCs_map, List.map_map]; rfl) (rises_nn ps) hne ?_
        exact ⟨C, sub_new hp, hq⟩
    | qu a t c =>
      simp only [ht] at hh
      simp only [csize] at hl
      simp_arith! [Cn.t, T.d, T.ds, oEqN_strI (so_qw a) so_ask, qw_ask, decide_false, qw_in, GG_call]
      refine ih n c C _ _ (by omega) (by omega) ht'.2 ?_
      exact ⟨C, Sub.refl, hq⟩
/-! the height of a term, of a condition -/
mutual
def tallT : T → Int
  | .tup (_ :: xs) => 1 + maxs (tallTs xs)
  | _ => 0
def tallTs : List T → List Int
  | [] => []
  | x :: xs => tallT x :: tallTs xs
end
theorem tallT_vv : ∀ v : Vv, tallT v.t = v.h
  | .item i => rfl
  | .app1 z a => by
    have := a.h_nonneg
    simp only [Vv.t, tallT, tallTs, tallT_vv a, Vv.h, maxs_one this]
  | .app2 z a b => by
    have := a.h_nonneg
    have := b.h_nonneg
    simp only [Vv.t, tallT, tallTs, tallT_vv a, tallT_vv b, Vv.h, maxs_two this]
mutual
def tallC : Cn → Int
  | .ask t _ => tallT t
  | .con _ ps => maxs (tallCs ps)
  | .qu _ t c => if tallC c > tallT t then tallC c else tallT t
def tallCs : List Cn → List Int
  | [] => []
  | c :: cs => tallC c :: tallCs cs
end
theorem tallCs_map : ∀ cs, tallCs cs = cs.map tallC
  | [] => rfl
  | c :: cs => by rw [tallCs, tallCs_map cs]; rfl
mutual
theorem tall_nn {r : Nat} : ∀ c, tmsC r c → 0 ≤ tallC c
  | .ask t _, h => by obtain ⟨v, e, _⟩ := h; rw [tallC, e, tallT_vv]; exact v.h_nonneg
  | .con _ ps, h => maxs_nn (talls_nn ps h.2)
  | .qu _ t c, h => by
    have h1 := tall_nn c h.2
    simp only [tallC]
    split <;> omega
theorem talls_nn {r : Nat} : ∀ cs, tmsCs r cs → ∀ x ∈ tallCs cs, 0 ≤ x
  | [], _, x, h => nomatch h
  | c :: cs, k, x, h => by
    rcases List.mem_cons.mp h with e | h
    · rw [e]; exact tall_nn c k.1
    · exact talls_nn cs k.2 x h
end
theorem tall_T {n r : Nat} {t : T} {C : CH} {Q : Kv} {E : Kx} (h : tmV r t) (hq : Q (.int (tallT t)) C) : W (n + r + 1) i_tallness [t.d] C Q E := by
  obtain ⟨v, rfl, hh⟩ := h
  rw [tallT_vv] at hq
  exact tallness_ok r n v C Q E hh hq
theorem tallest_in_ok (r : Nat) : ∀ (h n : Nat) (c : Cn) (C : CH) (Q : Kv) (E : Kx), ht c ≤ h → csize c ≤ sizeLine → tmsC r c → Q (.int (tallC c)) C → W (n + r + h + 2) i_tallest_in [c.t.d] C Q E := by
  intro h
  induction h with
  | zero => intro n c C Q E hh; cases c <;> simp [ht] at hh
  | succ h ih =>
    intro n c C Q E hh hl ht' hq
    rw [W_tallest_in]
    unfold b_tallest_in
    cases c with
    | ask t b =>
      simp_arith! [Cn.t, T.d, T.ds, oEqN_strI so_ask so_ask, decide_true, GG_call]
      refine tm_at (by omega) (fun m => tall_T (n := m) ht' ?_)
      exact ⟨C, Sub.refl, hq⟩
    | con a ps =>
      simp only [ht] at hh
      simp only [csize] at hl
      simp_arith! [Cn.t, T.d, T.ds, oEqN_strI (so_cw a) so_ask, cw_ask, decide_false, cw_in]
      rw [ds_ts]
      simp_arith! [cLc, iSeq]
      have hcl := csizes_len ps
      refine lcL_of (fun c : Cn => c.t.d) (fun c : Cn => D.int (tallC c)) trivial ps (fun c hc => ⟨_, rfl, fun Q' hQ => ?_⟩) (by omega) ?_
      · simp_arith! [wipe3, GG_call]
        refine ih n c C Q' _ ?_ ?_ (tmsCs_mem ht'.2 hc) hQ
        · have := hts_mem hc; omega
        · have := csizes_mem hc; omega
      · intro p hp
        have hne : tallCs ps ≠ [] := by
          have := ht'.1
          rw [tallCs_map]
          intro e
          rw [List.map_eq_nil_iff] at e
          rw [e] at this
          simp at this
        refine oMaxL_of (ns := tallCs ps) (by rw [cup_same, tallCs_map, List.map_map]; rfl) (talls_nn ps ht'.2) hne ?_
        exact ⟨C, sub_new hp, hq⟩
    | qu a t c =>
      simp only [ht] at hh
      simp only [csize] at hl
      simp_arith! [Cn.t, T.d, T.ds, oEqN_strI (so_qw a) so_ask, qw_ask, decide_false, qw_in, GG_call]
      refine tm_at (by omega) (fun m => tall_T (n := m) ht'.1 ?_)
      refine ih n c C _ _ (by omega) (by omega) ht'.2 ?_
      exact ⟨_, _, rfl, C, Sub.refl, hq⟩

/-! what the package says of clauses -/
def CAP : Str := "ABCDEFGHIJKLMNOPQRSTUVWXYZ"
def isWd (z : Str) : Bool := decide (1 ≤ z.length) && (decide (z.length ≤ 8) && z.cps.toList.all fun c => decide (c ∈ CAP.cps.toList))
def isWord : T → Bool
  | .str z => isWd z
  | _ => false
theorem is_word_ok {n : Nat} {t : T} {C : CH} {Q : Kv} {E : Kx} (ho : okT t = true) (hq : Q (.bl (isWord t)) C) : W (n+1) i_is_word [t.d] C Q E := by
  rw [W_is_word]
  unfold b_is_word
  cases t with
  | str z =>
    have hz := ok_len ho
    simp_arith! [T.d, GG_kit]
    refine ⟨hz, ?_⟩
    have hn := len_cps z
    replace hq : Q (.bl (isWd z)) C := hq
    unfold isWd at hq
    by_cases h1 : 1 ≤ z.length
    · have h1' : (1 : Int) ≤ (z.length : Int) := by omega
      rw [if_pos (decide_eq_true h1')]
      by_cases h8 : z.length ≤ 8
      · have h8' : ((z.length : Nat) : Int) ≤ 8 := by omega
        rw [if_neg (by simp [h8'])]
        simp_arith! [cLc, iTxt]
        refine lcL_map (fun d => match d with | .str y => .bl (decide (y.cps.toList.head?.getD 0 ∈ CAP.cps.toList)) | _ => .non) trivial _ [] (fun d hd => ?_) ?_ ?_
        · obtain ⟨a, ha, rfl⟩ := List.mem_map.mp hd
          refine ⟨_, rfl, fun Q' hQ => ?_⟩
          simp_arith! [wipe3]
          exact ⟨a, rfl, by simpa [CAP] using hQ⟩
        · rw [List.length_map, ← len_cps]; simp only [List.length_nil]; omega
        · intro p hp
          rw [List.nil_append, List.map_map]
          refine oAll_new (bs := z.cps.toList.map fun c => decide (c ∈ CAP.cps.toList)) (by rw [List.map_map]; rfl) ⟨C, sub_new hp, ?_⟩
          simpa [h8, h1, List.all_map, Function.comp_def] using hq
      · have h8' : ¬ ((z.length : Nat) : Int) ≤ 8 := by omega
        rw [if_pos (by simp [h8'])]
        refine ⟨C, Sub.refl, ?_⟩
        simpa [h8] using hq
    · have h1' : ¬ (1 : Int) ≤ (z.length : Int) := by omega
      rw [if_neg (by simp [h1'])]
      try simp_arith! []
      refine ⟨C, Sub.refl, ?_⟩
      simpa [h1] using hq
  | _ => simp_arith! [T.d, GG_kit] <;> exact ⟨C, Sub.refl, hq⟩
def mayEmit (t : T) (lv : Int) (kn : Kn) : Bool := isWord t || mayUse t lv kn
theorem may_emit_ok {n : Nat} {t : T} {lv : Int} {kn : Kn} {kd : D} {C : CH} {Q : Kv} {E : Kx} (hk : KnAt C kn kd) (ho : okT t = true) (hq : Q (.bl (mayEmit t lv kn)) C) : W (n + 10) i_may_emit [t.d, .int lv, kd] C Q E := by
  rw [W_may_emit]
  unfold b_may_emit
  simp_arith! [GG_call]
  refine is_word_ok (n := n + 8) ho ?_
  unfold mayEmit at hq
  cases h : isWord t with
  | true => rw [h] at hq; exact ⟨_, rfl, C, Sub.refl, hq⟩
  | false =>
    rw [h] at hq
    refine ⟨_, rfl, ?_⟩
    refine may_use_ok (n := n) hk ho ⟨C, Sub.refl, hq⟩
def isLevel (t : T) (hi : Int) : Bool := match t with
  | .int i => decide (0 ≤ i) && decide (i ≤ hi)
  | _ => false
theorem is_level_ok {n : Nat} {t : T} {hi : Int} {C : CH} {Q : Kv} {E : Kx} (hq : Q (.bl (isLevel t hi)) C) : W (n + 2) i_is_level [t.d, .int hi] C Q E := by
  rw [W_is_level]
  unfold b_is_level
  simp_arith! [GG_call]
  refine is_number_ok (n := n) ?_
  cases t with
  | int i =>
    simp_arith! [isNum, T.d]
    simp only [isLevel] at hq
    by_cases h : 0 ≤ i
    · rw [decide_eq_true h] at hq ⊢
      first | exact ⟨_, rfl, ⟨C, Sub.refl, hq⟩⟩ | exact ⟨C, Sub.refl, hq⟩
    · rw [decide_eq_false h] at hq ⊢
      first | exact ⟨_, rfl, ⟨C, Sub.refl, hq⟩⟩ | exact ⟨C, Sub.refl, hq⟩
  | _ => simp_arith! [isNum]; exact ⟨C, Sub.refl, hq⟩
/-- a tree that is not too great -/
structure Small (t : T) : Prop where
  ok : okT t = true
  dp : t.p.depth ≤ 340
  sz : size t ≤ 1000000
theorem Small.mem {xs : List T} {x : T} (h : Small (.tup xs)) (m : x ∈ xs) : Small x := by
  obtain ⟨h1, h2, h3⟩ := h
  refine ⟨okTs_mem h1 m, ?_, ?_⟩
  · have := depth_mem m
    simp only [T.p, PyData.depth] at h2
    omega
  · have : ∀ {ys : List T}, x ∈ ys → size x ≤ sizes ys := by
      intro ys
      induction ys with
      | nil => intro z; cases z
      | cons y ys ih =>
        intro z
        simp only [sizes]
        rcases List.mem_cons.mp z with e | z
        · rw [e]; omega
        · have := ih z; omega
    have := this m
    simp only [size] at h3
    omega
theorem so_call : PyData.strOk (Str.ofString "call") = true := by decide +kernel
theorem so_from : PyData.strOk (Str.ofString "from") = true := by decide +kernel
theorem so_if : PyData.strOk (Str.ofString "if") = true := by decide +kernel
theorem so_for : PyData.strOk (Str.ofString "for") = true := by decide +kernel
def isNonT : T → Bool
  | .non => true
  | _ => false
def isClause (t : T) (lv : Int) (vs : List T) : Bool := match t with
  | .tup (.str w :: a :: r) =>
    if w = ("call" : Str) then r.isEmpty && mayCall a lv (.lst vs)
    else if w = ("from" : Str) then r.isEmpty && isCondK a lv (.lst vs)
    else if w = ("if" : Str) then match r with
      | [l] => isCondK a lv (.lst vs) && isLevel l lv
      | _ => false
    else if w = ("for" : Str) then match r with
      | [o] => !decide (lv = 3) && (mayCall a lv (.lst vs) && (isNonT o || mayEmit o lv (.lst vs)))
      | _ => false
    else false
  | _ => false
theorem isNon_T (t : T) : isNon t.d = isNonT t := by cases t <;> rfl
theorem is_clause_ok {n : Nat} {t : T} {lv : Int} {vs : List T} {pc : Addr} {C : CH} {Q : Kv} {E : Kx} (hk : KnAt C (.lst vs) (.ref pc)) (hs : Small t) (hq : Q (.bl (isClause t lv vs)) C) : W (n + 12) i_is_clause [t.d, .int lv, .ref pc] C Q E := by
  rw [W_is_clause]
  unfold b_is_clause
  have hsl : 1000000 ≤ sizeLine := by decide
  cases t with
  | tup xs =>
    match xs, hs, hq with
    | [], hs, hq => simp_arith! [T.d, T.ds, GG_kit]; exact ⟨C, Sub.refl, hq⟩
    | [x], hs, hq => simp_arith! [T.d, T.ds, GG_kit]; exact ⟨C, Sub.refl, by cases x <;> exact hq⟩
    | x :: a :: r, hs, hq =>
      have e2 : (((r.length + 1 + 1 : Nat) : Int) < 2) = False := by simp; omega
      have ha := hs.mem (x := a) (by simp)
      have hl : ∀ xs, a = .tup xs → xs.length ≤ sizeLine := fun xs e => by
        have := ha.sz; rw [e] at this; have := sizes_len xs; simp only [size] at *; omega
      cases x with
      | str w =>
        have hw : PyData.strOk w = true := ok_str (hs.mem (x := .str w) (by simp)).ok
        simp_arith [T.d, T.ds, GG_kit, e2, T.ds_length]
        rw [rdSs_cons]
        simp_arith [T.d, T.ds, GG_kit, e2, T.ds_length]
        rw [rdSs_cons]
        simp_arith [oEqN_strI hw so_call]
        by_cases h1 : w = Str.ofString "call"
        · subst h1
          rw [if_pos (by simp), rdSs_cons]
          simp_arith [T.ds_length, GG_call]
          cases r with
          | nil =>
            simp_arith! []
            refine may_call_ok (n := n + 1) hk ha.ok hl ?_
            exact ⟨C, Sub.refl, hq⟩
          | cons b r =>
            have e3 : (((r.length + 1 + 1 + 1 : Nat) : Int) = 2) = False := by simp; omega
            simp_arith! [e3, decide_false]
            exact ⟨C, Sub.refl, hq⟩
        rw [if_neg (by simp [h1])]
        try simp_arith []
        rw [rdSs_cons]
        simp_arith [oEqN_strI hw so_from]
        by_cases h2 : w = Str.ofString "from"
        · subst h2
          rw [if_pos (by simp), rdSs_cons]
          simp_arith [T.ds_length, GG_call]
          cases r with
          | nil =>
            simp_arith! []
            refine isCondK_ok (n := n) hk ha.ok ha.dp ha.sz ?_
            exact ⟨C, Sub.refl, hq⟩
          | cons b r =>
            have e3 : (((r.length + 1 + 1 + 1 : Nat) : Int) = 2) = False := by simp; omega
            simp_arith! [e3, decide_false]
            exact ⟨C, Sub.refl, hq⟩
        rw [if_neg (by simp [h2])]
        try simp_arith []
        rw [rdSs_cons]
        simp_arith [oEqN_strI hw so_if]
        by_cases h3 : w = Str.ofString "if"
        · subst h3
          rw [if_pos (by simp), rdSs_cons]
          simp_arith [T.ds_length, GG_call]
          match r, hs, hq with
          | [], hs, hq => simp_arith! []; exact ⟨C, Sub.refl, hq⟩
          | [l], hs, hq =>
            simp_arith! [T.ds]
            refine isCondK_ok (n := n) hk ha.ok ha.dp ha.sz ?_
            have hq' : Q (.bl (isCondK a lv (.lst vs) && isLevel l lv)) C := hq
            cases hc : isCondK a lv (.lst vs) with
            | false =>
              rw [hc] at hq'
              exact ⟨_, rfl, C, Sub.refl, hq'⟩
            | true =>
              rw [hc] at hq'
              refine ⟨_, rfl, ?_⟩
              refine is_level_ok (n := n + 9) ⟨C, Sub.refl, hq'⟩
          | b :: c :: r, hs, hq =>
            have e3 : (((r.length + 1 + 1 + 1 + 1 : Nat) : Int) = 3) = False := by simp; omega
            simp_arith! [e3, decide_false]
            exact ⟨C, Sub.refl, hq⟩
        rw [if_neg (by simp [h3])]
        try simp_arith []
        rw [rdSs_cons]
        simp_arith [oEqN_strI hw so_for]
        by_cases h4 : w = Str.ofString "for"
        · subst h4
          match r, hs, hq with
          | [], hs, hq =>
            simp_arith! [T.ds_length]
            exact ⟨C, Sub.refl, hq⟩
          | [o], hs, hq =>
            have hq' : Q (.bl (!decide (lv = 3) && (mayCall a lv (.lst vs) && (isNonT o || mayEmit o lv (.lst vs))))) C := hq
            simp_arith! [T.ds_length]
            by_cases h5 : lv = 3
            · subst h5
              simp_arith! []
              exact ⟨C, Sub.refl, hq'⟩
            · simp_arith! [h5, decide_false]
              rw [decide_eq_false h5] at hq'
              simp only [Bool.not_false, Bool.true_and] at hq'
              refine may_call_ok (n := n + 1) hk ha.ok hl ?_
              cases hc : mayCall a lv (.lst vs) with
              | false =>
                rw [hc] at hq'
                exact ⟨_, rfl, C, Sub.refl, hq'⟩
              | true =>
                rw [hc] at hq'
                simp only [Bool.true_and] at hq'
                refine ⟨_, rfl, ?_⟩
                rw [if_pos rfl]
                have ho := (hs.mem (x := o) (by simp)).ok
                cases o with
                | non => simp_arith! [T.ds, T.d]; exact ⟨C, Sub.refl, hq'⟩
                | _ =>
                  simp only [T.ds, atI_two, List.length_cons]
                  simp_arith! [T.d, T.ds]
                  exact may_emit_ok (n := n + 1) hk ho ⟨C, Sub.refl, hq'⟩
          | b :: c :: r, hs, hq =>
            have e3 : (((r.length + 1 + 1 + 1 + 1 : Nat) : Int) = 3) = False := by simp; omega
            simp_arith! [e3, decide_false, T.ds_length]
            exact ⟨C, Sub.refl, hq⟩
        · simp_arith! [h4, decide_false]
          refine ⟨C, Sub.refl, ?_⟩
          simpa [isClause, h1, h2, h3, h4] using hq
      | _ => simp_arith! [T.d, T.ds, GG_kit, e2, T.ds_length]; exact ⟨C, Sub.refl, by cases r <;> exact hq⟩
  | _ => simp_arith! [T.d, GG_kit]; exact ⟨C, Sub.refl, hq⟩

/-- a condition's tree that can be compared -/
def Lim (c : Cn) : Prop := okT c.t = true ∧ c.t.p.depth ≤ 300
def partsC : Cn → List Cn
  | .ask _ _ => []
  | .con _ ps => ps
  | .qu _ _ c => [c]
theorem okTs_ts {cs : List Cn} : okTs (Cn.ts cs) = true → ∀ c ∈ cs, okT c.t = true := fun h c hc => okTs_mem h (by rw [Cn.ts_map]; exact List.mem_map.mpr ⟨c, hc, rfl⟩)
theorem Lim.parts {c : Cn} (h : Lim c) : ∀ p ∈ partsC c, Lim p := by
  obtain ⟨h1, h2⟩ := h
  intro p hp
  cases c with
  | ask t w => cases hp
  | con a ps =>
    have hp : p ∈ ps := hp
    simp only [Cn.t, okT, okTs, Bool.and_true, Bool.and_eq_true] at h1
    refine ⟨okTs_ts h1.2 p hp, ?_⟩
    have : p.t.p.depth ≤ PyData.depthAll (T.pl (Cn.ts ps)) := depth_mem (by rw [Cn.ts_map]; exact List.mem_map.mpr ⟨p, hp, rfl⟩)
    simp only [Cn.t, T.p, T.pl, PyData.depth, PyData.depthAll] at h2
    omega
  | qu a t c =>
    have hp : p = c := List.mem_singleton.mp hp
    subst hp
    simp only [Cn.t, okT, okTs, Bool.and_true, Bool.and_eq_true] at h1
    refine ⟨h1.2.2, ?_⟩
    simp only [Cn.t, T.p, T.pl, PyData.depth, PyData.depthAll] at h2
    omega
theorem parts_size (c : Cn) : csizes (partsC c) + 1 ≤ csize c := by
  cases c <;> simp [partsC, csize, csizes] <;> omega
theorem parts_asks (c : Cn) : (askss (partsC c) : Int) + (if headW c = ("ask" : Str) then 1 else 0) = asks c := by
  cases c with
  | ask t w => simp [partsC, asks, askss, headW]
  | con a ps =>
    have : ¬ cw a = ("ask" : Str) := by cases a <;> decide
    simp [partsC, asks, headW, this]
  | qu a t c =>
    have : ¬ qw a = ("ask" : Str) := by cases a <;> decide
    simp [partsC, asks, headW, this, askss]
def cds (cs : List Cn) : List D := T.ds (Cn.ts cs)
theorem cds_map (cs : List Cn) : cds cs = cs.map fun c => c.t.d := by
  unfold cds
  rw [T.ds_map, Cn.ts_map, List.map_map]
  rfl
theorem parts_of_ok {n : Nat} {c : Cn} {C : CH} {Q : Kv} {E : Kx} (hq : ∀ p C', C p = none → Sub C C' → C' p = some (.lst (cds (partsC c))) → Q (.ref p) C') : W (n + 1) i_parts_of [c.t.d] C Q E := by
  rw [W_parts_of]
  unfold b_parts_of
  cases c with
  | ask t w =>
    have h1 : (decide (("ask" : Str) = Str.ofString "and") || decide (("ask" : Str) = Str.ofString "or")) = false := by decide
    have h2 : (("ask" : Str) = Str.ofString "ask") = True := by simp
    simp_arith! [Cn.t, T.d, T.ds, h1, oEqN_strI so_ask so_ask, h2, decide_true, oLst]
    intro p hp
    exact ⟨_, Sub.refl, hq p _ hp (sub_new hp) cup_same⟩
  | con a ps =>
    have h1 : (decide (cw a = Str.ofString "and") || decide (cw a = Str.ofString "or")) = true := by cases a <;> decide
    simp_arith! [Cn.t, T.d, T.ds, h1, oList]
    intro p hp
    exact ⟨_, Sub.refl, hq p _ hp (sub_new hp) cup_same⟩
  | qu a t c =>
    have h1 : (decide (qw a = Str.ofString "and") || decide (qw a = Str.ofString "or")) = false := by cases a <;> decide
    have h2 : (qw a = Str.ofString "ask") = False := by cases a <;> simp <;> decide
    simp_arith! [Cn.t, T.d, T.ds, h1, oEqN_strI (so_qw a) so_ask, h2, decide_false, oLst]
    intro p hp
    exact ⟨_, Sub.refl, hq p _ hp (sub_new hp) cup_same⟩
def asksB : List CS := match b_asks with
  | [_, _, .whileS _ b, _] => b
  | _ => []
theorem asks_loop {n : Nat} {E : Kx} {C0 : CH} {p : Addr} {tot : Int} {Dd : EndsC} (hp : C0 p = none) (hD : ∀ (σ3 : Option L3.D × Option L3.D) C', Sub C0 C' → Dd.nx [σ3.1, some (.ref p), some (.int tot), σ3.2] C') :
    ∀ (fuel : Nat) (js : List Cn) (count : Int) (x0 x3 : Option L3.D) (C : CH), csizes js ≤ fuel → count + askss js = tot → (∀ j ∈ js, Lim j) → csizes js ≤ 1000000 → Sub C0 C → C p = some (.lst (cds js.reverse)) →
      whileN (rdT (GG (n + 1)) (exN E) (.cmp .ne (.var 1) (.lst []))) (rdSs (GG (n + 1)) (exN E) asksB) Dd (fuel + 1) [x0, some (.ref p), some (.int count), x3] C := by
  intro fuel
  induction fuel with
  | zero =>
    intro js count x0 x3 C hf ht ok hz hs hc
    cases js with
    | cons j js => have := csize_pos j; simp only [csizes] at hf; omega
    | nil =>
      unfold whileN
      simp_arith [oLst]
      intro r hr
      refine ts_ne (ts := []) (fun _ h => nomatch h) (cup_old hr hc) cup_same ?_
      simp_arith! [List.isEmpty]
      simp only [askss] at ht
      have e : count = tot := by omega
      subst e
      exact hD (x0, x3) _ (hs.trans (sub_new hr))
  | succ fuel ih =>
    intro js count x0 x3 C hf ht ok hz hs hc
    cases js with
    | nil =>
      unfold whileN
      simp_arith [oLst]
      intro r hr
      refine ts_ne (ts := []) (fun _ h => nomatch h) (cup_old hr hc) cup_same ?_
      simp_arith! [List.isEmpty]
      simp only [askss] at ht
      have e : count = tot := by omega
      subst e
      exact hD (x0, x3) _ (hs.trans (sub_new hr))
    | cons j st =>
      unfold whileN
      simp_arith [oLst]
      intro r hr
      refine ts_ne (ts := Cn.ts ((j :: st).reverse)) (fun t ht' => ?_) (cup_old hr hc) cup_same ?_
      · rw [Cn.ts_map] at ht'
        obtain ⟨c, hc', rfl⟩ := List.mem_map.mp ht'
        exact ok c (List.mem_reverse.mp hc')
      have he : (Cn.ts ((j :: st).reverse)).isEmpty = false := by rw [Cn.ts_map]; simp
      rw [he]
      simp_arith []
      have hs1 := hs.trans (sub_new (o := .lst []) hr)
      have hc1 := cup_old (u := .lst []) hr hc
      generalize cup C r (.lst []) = C1 at hs1 hc1
      have e0 : cds (j :: st).reverse = cds st.reverse ++ [j.t.d] := by rw [cds_map, cds_map]; simp
      have e1 : (cds (j :: st).reverse)[(cds (j :: st).reverse).length - 1]? = some j.t.d := by rw [e0]; simp
      have e2 : (cds (j :: st).reverse).dropLast = cds st.reverse := by rw [e0]; simp
      conv => rw [asksB, b_asks]
      dsimp only
      rw [rdSs_cons]
      simp_arith []
      refine ⟨isLst_of hc1, ?_⟩
      refine ⟨p, _, j.t.d, rfl, rfl, hc1, e1, ?_⟩
      rw [e2]
      dsimp only
      have hs2 : Sub C0 (cup C1 p (.lst (cds st.reverse))) := sub_at hp hs1
      have hc2 : cup C1 p (.lst (cds st.reverse)) p = some (.lst (cds st.reverse)) := cup_same
      generalize cup C1 p (.lst (cds st.reverse)) = C2 at hs2 hc2
      rw [rdSs_cons]
      obtain ⟨x, rr, eh⟩ := head_at j
      simp_arith [eh, oEqN_strI (so_head j) so_ask]
      rw [← eh]
      rw [rdSs_cons]
      simp_arith [GG_call]
      refine ⟨isLst_of hc2, ?_⟩
      refine parts_of_ok (n := n) fun q C3 hq hs3 hcq => ?_
      have hc3 := hs3 _ _ hc2
      have z := parts_size j
      simp only [csizes] at hf hz
      have hl1 := csizes_len st
      have hl2 := csizes_len (partsC j)
      have hsl : 2000000 ≤ sizeLine := by decide
      refine ⟨p, _, _, _, rfl, rfl, hc3, .inr ⟨q, rfl, hcq⟩, ?_, ?_⟩
      · rw [cds_map, cds_map]; simp only [List.length_map, List.length_reverse]; omega
      have e3 : cds st.reverse ++ cds (partsC j) = cds (((partsC j).reverse ++ st).reverse) := by
        rw [cds_map, cds_map, cds_map]; simp
      rw [e3]
      have e4 : (if decide (headW j = Str.ofString "ask") = true then (1 : Int) else 0) = if headW j = ("ask" : Str) then 1 else 0 := by
        by_cases hh : headW j = ("ask" : Str)
        · rw [if_pos hh, if_pos (decide_eq_true hh)]
        · rw [if_neg hh, if_neg (by simpa using hh)]
      have pa := parts_asks j
      refine ih ((partsC j).reverse ++ st) _ _ _ _ ?_ ?_ ?_ ?_ (sub_at hp (hs2.trans hs3)) cup_same
      · have : csizes ((partsC j).reverse) = csizes (partsC j) := by
          have rv : ∀ xs : List Cn, csizes xs.reverse = csizes xs := fun xs => by
            induction xs with
            | nil => rfl
            | cons x xs ih => simp only [List.reverse_cons, csizes_append, csizes, ih]; omega
          exact rv _
        rw [csizes_append]; omega
      · rw [askss_append, askss_reverse, e4]
        simp only [askss] at ht
        omega
      · intro k hk
        rcases List.mem_append.mp hk with hk | hk
        · exact (ok j List.mem_cons_self).parts k (List.mem_reverse.mp hk)
        · exact ok k (List.mem_cons_of_mem _ hk)
      · have : csizes ((partsC j).reverse) = csizes (partsC j) := by
          have rv : ∀ xs : List Cn, csizes xs.reverse = csizes xs := fun xs => by
            induction xs with
            | nil => rfl
            | cons x xs ih => simp only [List.reverse_cons, csizes_append, csizes, ih]; omega
          exact rv _
        rw [csizes_append]; omega
theorem asks_ok {n : Nat} {c : Cn} {C : CH} {Q : Kv} {E : Kx} (hl : Lim c) (hz : csize c ≤ 1000000) (hq : Q (.int (asks c)) C) : W (n + 2) i_asks [c.t.d] C Q E := by
  rw [W_asks]
  unfold b_asks
  rw [rdSs_cons]
  simp_arith [oLst]
  intro p hp
  rw [rdSs_cons]
  simp_arith []
  rw [rdSs_cons, rdS_while]
  refine ⟨csize c + 1, ?_⟩
  refine asks_loop (n := n) (p := p) (tot := asks c) hp (fun σ3 C' hs => ?_) (csize c) [c] 0 _ _ _ (by simp [csizes]) (by simp [askss]) (fun j hj => by cases List.mem_singleton.mp hj; exact hl) (by simp [csizes]; exact hz) (sub_new hp) cup_same
  dsimp only
  rw [rdSs_cons]
  simp_arith []
  exact ⟨C, hs, hq⟩

/-! clauses and forms, as trees -/
inductive Em where
  | val (v : Vv) | word (z : Str)
def Em.t : Em → T
  | .val v => v.t
  | .word z => .str z
def oT : Option Em → T
  | none => .non
  | some e => e.t
inductive Cl where
  | call (v : Vv) | cif (c : Cn) (l : Int) | frm (c : Cn) | cfor (v : Vv) (o : Option Em)
def Cl.t : Cl → T
  | .call v => .tup [.str "call", v.t]
  | .cif c l => .tup [.str "if", c.t, .int l]
  | .frm c => .tup [.str "from", c.t]
  | .cfor v o => .tup [.str "for", v.t, oT o]
def clW : Cl → Str
  | .call _ => "call"
  | .cif _ _ => "if"
  | .frm _ => "from"
  | .cfor _ _ => "for"
structure okV (v : Vv) : Prop where
  good : v.good
  h : v.h ≤ 4
  top : v.top ≤ 3
def fitTm (v : Vv) (lv : Int) (vs : List T) : Prop := okV v ∧ v.fit lv (.lst vs)
theorem fitTm.t {v : Vv} {lv : Int} {vs : List T} (h : fitTm v lv vs) : fitT v.t lv (.lst vs) := ⟨v, rfl, h.1.good, h.1.h, h.1.top, h.2⟩
def fitEm (lv : Int) (vs : List T) : Em → Prop
  | .val v => okV v ∧ v.use lv (.lst vs)
  | .word z => isWd z = true ∧ okT (.str z) = true
structure okC (c : Cn) : Prop where
  ht : ht c ≤ 100
  asks : asks c ≤ 400
  size : csize c ≤ 10000
def fitCl (lv : Int) (vs : List T) : Cl → Prop
  | .call v => fitTm v lv vs
  | .cif c l => fitC c lv (.lst vs) ∧ okC c ∧ 0 ≤ l ∧ l ≤ lv
  | .frm c => fitC c lv (.lst vs) ∧ okC c
  | .cfor v o => fitTm v lv vs ∧ lv < 3 ∧ ∀ e, o = some e → fitEm lv vs e
def nextL (lv : Int) : Cl → Int
  | .cfor _ _ => lv + 1
  | _ => lv
def nextV (vs : List T) : Cl → List T
  | .call v => vs ++ [v.t]
  | _ => vs
def askCl : Cl → Nat
  | .cif c _ => asks c
  | .frm c => asks c
  | _ => 0
def fitCls : List Cl → Int → List T → Prop
  | [], _, _ => True
  | c :: cs, lv, vs => fitCl lv vs c ∧ fitCls cs (nextL lv c) (nextV vs c)
def endL : List Cl → Int → Int
  | [], lv => lv
  | c :: cs, lv => endL cs (nextL lv c)
def endV : List Cl → List T → List T
  | [], vs => vs
  | c :: cs, vs => endV cs (nextV vs c)
def asksL : List Cl → Nat
  | [] => 0
  | c :: cs => askCl c + asksL cs
theorem okV.t {v : Vv} (h : okV v) : okT v.t = true ∧ v.t.p.depth ≤ 4 ∧ size v.t ≤ 64 := by
  obtain ⟨h1, h2, h3⟩ := ok_vv v h.good
  have := vv_size 4 v h.h
  have := h.h
  exact ⟨h1, by omega, by omega⟩
theorem fitEm.ok {lv : Int} {vs : List T} {e : Em} (h : fitEm lv vs e) : okT e.t = true ∧ e.t.p.depth ≤ 4 ∧ size e.t ≤ 64 := by
  cases e with
  | val v => exact h.1.t
  | word z => exact ⟨h.2, by simp [Em.t, T.p, PyData.depth], by simp [Em.t, size]⟩
theorem fitEm.may {lv : Int} {vs : List T} {e : Em} (h : fitEm lv vs e) : mayEmit e.t lv (.lst vs) = true := by
  unfold mayEmit
  cases e with
  | val v =>
    have := use_ok h.1.good h.1.h h.1.top h.2
    show (_ || mayUse v.t lv (.lst vs)) = true
    rw [this, Bool.or_true]
  | word z =>
    have : isWord (Em.word z).t = true := h.1
    rw [this, Bool.true_or]
theorem fitC.small {c : Cn} {lv : Int} {kn : Kn} (h : fitC c lv kn) (k : okC c) : okT c.t = true ∧ c.t.p.depth ≤ 204 ∧ size c.t ≤ 720000 := by
  obtain ⟨h1, h2, h3⟩ := fit_ok c lv kn h
  have := k.ht
  have := k.size
  exact ⟨h1, by omega, by omega⟩
theorem so_clW (c : Cl) : PyData.strOk (clW c) = true := by
  cases c
  · exact so_call
  · exact so_if
  · exact so_from
  · exact so_for
theorem ok_call : okT (.str "call") = true := by decide +kernel
theorem ok_if : okT (.str "if") = true := by decide +kernel
theorem ok_from : okT (.str "from") = true := by decide +kernel
theorem ok_for : okT (.str "for") = true := by decide +kernel
theorem fitCl.small {lv : Int} {vs : List T} {c : Cl} (h : fitCl lv vs c) : okT c.t = true ∧ c.t.p.depth ≤ 210 ∧ size c.t ≤ 730000 := by
  cases c with
  | call v =>
    obtain ⟨h1, h2, h3⟩ := okV.t h.1
    have h0 := ok_call
    refine ⟨?_, ?_, ?_⟩
    · show (okT (.str "call") && (okT v.t && true)) = true
      rw [h0, h1]; rfl
    · simp only [Cl.t, T.p, T.pl, PyData.depth, PyData.depthAll]; omega
    · simp only [Cl.t, size, sizes]; omega
  | cif c l =>
    obtain ⟨h1, h2, h3⟩ := fitC.small h.1 h.2.1
    have h0 := ok_if
    refine ⟨?_, ?_, ?_⟩
    · show (okT (.str "if") && (okT c.t && (true && true))) = true
      rw [h0, h1]; rfl
    · simp only [Cl.t, T.p, T.pl, PyData.depth, PyData.depthAll]; omega
    · simp only [Cl.t, size, sizes]; omega
  | frm c =>
    obtain ⟨h1, h2, h3⟩ := fitC.small h.1 h.2
    have h0 := ok_from
    refine ⟨?_, ?_, ?_⟩
    · show (okT (.str "from") && (okT c.t && true)) = true
      rw [h0, h1]; rfl
    · simp only [Cl.t, T.p, T.pl, PyData.depth, PyData.depthAll]; omega
    · simp only [Cl.t, size, sizes]; omega
  | cfor v o =>
    obtain ⟨h1, h2, h3⟩ := okV.t h.1.1
    have h0 := ok_for
    have ho : okT (oT o) = true ∧ (oT o).p.depth ≤ 4 ∧ size (oT o) ≤ 64 := by
      cases o with
      | none => exact ⟨rfl, by simp [oT, T.p, PyData.depth], by simp [oT, size]⟩
      | some e => exact fitEm.ok (h.2.2 e rfl)
    obtain ⟨k1, k2, k3⟩ := ho
    refine ⟨?_, ?_, ?_⟩
    · show (okT (.str "for") && (okT v.t && (okT (oT o) && true))) = true
      rw [h0, h1, k1]; rfl
    · simp only [Cl.t, T.p, T.pl, PyData.depth, PyData.depthAll]; omega
    · simp only [Cl.t, size, sizes]; omega
theorem fitCl.smallS {lv : Int} {vs : List T} {c : Cl} (h : fitCl lv vs c) : Small c.t := by
  obtain ⟨h1, h2, h3⟩ := h.small
  exact ⟨h1, by omega, by omega⟩
theorem fitCl.is {lv : Int} {vs : List T} {c : Cl} (h : fitCl lv vs c) (l3 : lv ≤ 3) : isClause c.t lv vs = true := by
  cases c with
  | call v =>
    have q := h.t.call
    have e : isClause (Cl.call v).t lv vs = (([] : List T).isEmpty && mayCall v.t lv (.lst vs)) := rfl
    rw [e, q]; rfl
  | cif c l =>
    have q := isCondK_fit h.1 l3 h.2.1.ht h.2.1.asks
    have e : isClause (Cl.cif c l).t lv vs = (isCondK c.t lv (.lst vs) && isLevel (.int l) lv) := rfl
    rw [e, q]
    simp [isLevel, h.2.2.1, h.2.2.2]
  | frm c =>
    have q := isCondK_fit h.1 l3 h.2.ht h.2.asks
    have e : isClause (Cl.frm c).t lv vs = (([] : List T).isEmpty && isCondK c.t lv (.lst vs)) := rfl
    rw [e, q]; rfl
  | cfor v o =>
    have q := h.1.t.call
    have e : isClause (Cl.cfor v o).t lv vs = (!decide (lv = 3) && (mayCall v.t lv (.lst vs) && (isNonT (oT o) || mayEmit (oT o) lv (.lst vs)))) := rfl
    have h3 : ¬ lv = 3 := by have := h.2.1; omega
    rw [e, q, decide_eq_false h3]
    cases o with
    | none => rfl
    | some m =>
      have := (h.2.2 m rfl).may
      simp only [oT, this, Bool.or_true]; rfl
theorem need_ok1 {n : Nat} {m : D} {C : CH} {Q : Kv} {E : Kx} (hq : Q .non C) : W (n + 1) i_need [.bl true, m] C Q E := by
  rw [W_need]
  unfold b_need
  simp_arith! []
  exact ⟨C, Sub.refl, hq⟩
def clsT (cs : List Cl) : T := .tup (cs.map Cl.t)
theorem cl_at (c : Cl) : ∃ x r, c.t.d = .tup (.str (clW c) :: x :: r) := by
  cases c <;> exact ⟨_, _, rfl⟩
def walkB : List CS := match b_walked with
  | [_, _, _, .forS _ _ _ b, _] => b
  | _ => []
theorem cl_head0 {n : Nat} : True := trivial
/-- one clause is walked -/
theorem walk_turn {n : Nat} {E : Kx} {C0 C : CH} {p : Addr} {lv cnt : Int} {vs : List T} {c : Cl} {Dd : EndsC} {x0 : Option D} (h : fitCl lv vs c) (l3 : lv ≤ 3) (hp : C0 p = none) (hs : Sub C0 C) (hk : KnAt C (.lst vs) (.ref p)) (hlen : vs.length < 100000) (hc : cnt + askCl c ≤ 400)
    (hK : ∀ C', Sub C0 C' → C' p = some (.lst (T.ds (nextV vs c))) → Dd.nx [x0, some (.ref p), some (.int (nextL lv c)), some (.int (cnt + askCl c)), some c.t.d] C') :
    rdSs (GG (n + 12)) (exN E) walkB Dd [x0, some (.ref p), some (.int lv), some (.int cnt), some c.t.d] C := by
  simp only [walkB, b_walked]
  rw [rdSs_cons]
  simp_arith [GG_call]
  refine is_clause_ok (n := n) hk h.smallS ?_
  rw [h.is l3]
  refine need_ok1 ?_
  try dsimp only
  rw [rdSs_cons]
  have hcp : C p = some (.lst (T.ds vs)) := by cases hk; assumption
  have hsl : 1000000 ≤ sizeLine := by decide
  have e400 : ∀ m : Int, m ≤ 400 → decide (m ≤ 400) = true := fun m hm => decide_eq_true hm
  cases c with
  | call v =>
    simp_arith [Cl.t, T.d, T.ds, oEqN_strI so_call so_call, decide_true, GG_call]
    rw [rdSs_cons]
    simp_arith []
    refine ⟨isLst_of hcp, p, _, _, rfl, rfl, hcp, by rw [T.ds_length]; omega, ?_⟩
    dsimp only
    rw [rdSs_cons]
    simp_arith [GG_call]
    simp only [askCl] at hc hK
    rw [e400 cnt (by omega)]
    refine need_ok1 ?_
    have e1 : T.ds vs ++ [v.t.d] = T.ds (nextV vs (.call v)) := by rw [T.ds_map, T.ds_map]; simp [nextV]
    have e2 : cnt + ((0 : Nat) : Int) = cnt := by omega
    have := hK (cup C p (.lst (T.ds vs ++ [v.t.d]))) (sub_at hp hs) (by rw [cup_same, e1])
    rw [e2] at this
    simpa [Cl.t, T.d, T.ds, nextL] using this
  | cfor v o =>
    have n1 : (Str.ofString "for" = Str.ofString "call") = False := by simp; decide
    simp_arith [Cl.t, T.d, T.ds, oEqN_strI so_for so_call, oEqN_strI so_for so_for, n1, decide_true, decide_false, GG_call]
    rw [rdSs_cons]
    simp_arith [oEqN_strI so_for so_for, decide_true]
    rw [rdSs_cons]
    simp_arith []
    rw [rdSs_cons]
    simp_arith [GG_call]
    simp only [askCl] at hc hK
    rw [e400 cnt (by omega)]
    refine need_ok1 ?_
    have e2 : cnt + ((0 : Nat) : Int) = cnt := by omega
    have := hK C hs hcp
    rw [e2] at this
    simpa [Cl.t, T.d, T.ds, nextL] using this
  | cif k l =>
    have n1 : (Str.ofString "if" = Str.ofString "call") = False := by simp; decide
    have n2 : (Str.ofString "if" = Str.ofString "for") = False := by simp; decide
    have lm : Lim k := by obtain ⟨a, b, _⟩ := fitC.small h.1 h.2.1; exact ⟨a, by omega⟩
    simp_arith [Cl.t, T.d, T.ds, oEqN_strI so_if so_call, n1, decide_false, GG_call]
    rw [rdSs_cons]
    simp_arith [oEqN_strI so_if so_for, n2, decide_false]
    rw [rdSs_cons]
    simp_arith [GG_call]
    refine asks_ok (n := n + 10) lm (by have := h.2.1.size; omega) ?_
    try dsimp only
    simp_arith []
    rw [rdSs_cons]
    simp_arith [GG_call]
    simp only [askCl] at hc hK
    rw [e400 _ (by omega)]
    refine need_ok1 ?_
    have := hK C hs hcp
    simpa [Cl.t, T.d, T.ds, nextL] using this
  | frm k =>
    have n1 : (Str.ofString "from" = Str.ofString "call") = False := by simp; decide
    have n2 : (Str.ofString "from" = Str.ofString "for") = False := by simp; decide
    have lm : Lim k := by obtain ⟨a, b, _⟩ := fitC.small h.1 h.2; exact ⟨a, by omega⟩
    simp_arith [Cl.t, T.d, T.ds, oEqN_strI so_from so_call, n1, decide_false, GG_call]
    rw [rdSs_cons]
    simp_arith [oEqN_strI so_from so_for, n2, decide_false]
    rw [rdSs_cons]
    simp_arith [GG_call]
    refine asks_ok (n := n + 10) lm (by have := h.2.size; omega) ?_
    try dsimp only
    simp_arith []
    rw [rdSs_cons]
    simp_arith [GG_call]
    simp only [askCl] at hc hK
    rw [e400 _ (by omega)]
    refine need_ok1 ?_
    have := hK C hs hcp
    simpa [Cl.t, T.d, T.ds, nextL] using this
theorem endL_mono : ∀ (cs : List Cl) (lv : Int), lv ≤ endL cs lv
  | [], lv => Int.le_refl _
  | c :: cs, lv => by
    have := endL_mono cs (nextL lv c)
    have : lv ≤ nextL lv c := by cases c <;> simp only [nextL] <;> omega
    simp only [endL]; omega
theorem nextL_le {c : Cl} {lv : Int} {vs : List T} (h : fitCl lv vs c) (l3 : lv ≤ 3) : nextL lv c ≤ 3 := by
  cases c with
  | cfor v o => have := h.2.1; simp only [nextL]; omega
  | _ => exact l3
theorem endL_le : ∀ (cs : List Cl) (lv : Int) (vs : List T), fitCls cs lv vs → lv ≤ 3 → endL cs lv ≤ 3
  | [], lv, vs, _, l3 => l3
  | c :: cs, lv, vs, h, l3 => endL_le cs _ _ h.2 (nextL_le h.1 l3)
/-- what has been called: terms of no great height -/
def Calls (vs : List T) : Prop := ∀ t ∈ vs, okT t = true ∧ t.p.depth ≤ 60
theorem nextV_calls {c : Cl} {lv : Int} {vs : List T} (h : fitCl lv vs c) (k : Calls vs) : Calls (nextV vs c) := by
  cases c with
  | call v =>
    intro t ht
    rcases List.mem_append.mp ht with ht | ht
    · exact k t ht
    · cases List.mem_singleton.mp ht
      obtain ⟨a, b, _⟩ := okV.t h.1
      exact ⟨a, by omega⟩
  | _ => exact k
theorem nextV_len (vs : List T) (c : Cl) : (nextV vs c).length ≤ vs.length + 1 := by cases c <;> simp [nextV]
theorem walk_loop {n : Nat} {E : Kx} {C0 : CH} {p : Addr} {Dd : EndsC} {x0 : Option D} (hp : C0 p = none) :
    ∀ (cs : List Cl) (lv cnt : Int) (vs : List T) (y : Option D) (C : CH), fitCls cs lv vs → lv ≤ 3 → Sub C0 C → Calls vs → C p = some (.lst (T.ds vs)) → vs.length + cs.length < 100000 → cnt + asksL cs ≤ 400 →
      (∀ y C', Sub C0 C' → C' p = some (.lst (T.ds (endV cs vs))) → Dd.nx [x0, some (.ref p), some (.int (endL cs lv)), some (.int (cnt + asksL cs)), y] C') →
      forL (hT (.nm 4)) (rdSs (GG (n + 12)) (exN E) walkB) (fun _ => True) Dd (cs.map fun c => c.t.d) [x0, some (.ref p), some (.int lv), some (.int cnt), y] C
  | [], lv, cnt, vs, y, C, hf, l3, hs, hk, hc, hl, ha, hK => by
    refine ⟨trivial, ?_⟩
    have := hK y C hs hc
    simpa [endL, asksL] using this
  | c :: cs, lv, cnt, vs, y, C, hf, l3, hs, hk, hc, hl, ha, hK => by
    refine ⟨trivial, _, rfl, ?_⟩
    simp only [List.length_cons] at hl
    simp only [asksL] at ha hK
    refine walk_turn hf.1 l3 hp hs (KnAt.lst hc hk) (by omega) (by omega) fun C' hs' hc' => ?_
    refine walk_loop hp cs _ _ _ _ C' hf.2 (nextL_le hf.1 l3) hs' (nextV_calls hf.1 hk) hc' (by have := nextV_len vs c; omega) (by omega) fun y' C'' h1 h2 => ?_
    have := hK y' C'' h1 h2
    have e : cnt + ((askCl c : Nat) : Int) + ((asksL cs : Nat) : Int) = cnt + ((askCl c + asksL cs : Nat) : Int) := by omega
    rw [e]
    exact this
theorem clsT_d (cs : List Cl) : (clsT cs).d = .tup (cs.map fun c => c.t.d) := by
  simp only [clsT, T.d, T.ds_map, List.map_map]
  rfl
theorem walked_ok {n : Nat} {cs : List Cl} {C : CH} {Q : Kv} {E : Kx} (hf : fitCls cs 1 []) (ha : asksL cs ≤ 400) (hl : cs.length ≤ 400)
    (hq : ∀ p C', C p = none → Sub C C' → C' p = some (.lst (T.ds (endV cs []))) → Q (.tup [.int (endL cs 1), .ref p]) C') : W (n + 13) i_walked [(clsT cs).d] C Q E := by
  rw [W_walked]
  unfold b_walked
  rw [rdSs_cons]
  simp_arith [oLst]
  intro p hp
  rw [rdSs_cons]
  simp_arith []
  rw [rdSs_cons]
  simp_arith []
  rw [rdSs_cons]
  simp_arith [sFor, iSeq, clsT_d]
  refine walk_loop (n := n) hp cs 1 0 [] _ _ hf (by decide) (sub_new hp) (fun _ h => nomatch h) cup_same (by simp; omega) (by omega) fun y C' h1 h2 => ?_
  dsimp only
  rw [rdSs_cons]
  simp_arith []
  exact ⟨C', Sub.refl, hq p C' hp h1 h2⟩

/-- a form -/
structure Fm where
  cls : List Cl
  val : Em
  lev : Int
  oth : Option Str
def othT : Option Str → T
  | none => .non
  | some z => .str z
def Fm.dep (F : Fm) : Int := endL F.cls 1
def Fm.fs (F : Fm) : List (Str × D) := [("clauses", (clsT F.cls).d), ("value", F.val.t.d), ("level", .int F.lev), ("other", (othT F.oth).d), ("depth", .int F.dep)]
abbrev FmO (F : Fm) : CO := .ins c_Form F.fs
structure FmOk (F : Fm) : Prop where
  cls : fitCls F.cls 1 []
  asks : asksL F.cls ≤ 400
  len : F.cls.length ≤ 400
  val : fitEm F.dep (endV F.cls []) F.val
  lev0 : 0 ≤ F.lev
  lev1 : F.lev ≤ F.dep
  oth : ∀ z, F.oth = some z → isWd z = true ∧ okT (.str z) = true
theorem endV_calls : ∀ (cs : List Cl) (lv : Int) (vs : List T), fitCls cs lv vs → Calls vs → Calls (endV cs vs)
  | [], _, _, _, k => k
  | c :: cs, lv, vs, h, k => endV_calls cs _ _ h.2 (nextV_calls h.1 k)
theorem FmOk.dep3 {F : Fm} (h : FmOk F) : F.dep ≤ 3 := endL_le _ _ _ h.cls (by decide)
theorem FmOk.dep1 {F : Fm} : 1 ≤ F.dep := endL_mono _ _
theorem FmOk.calls {F : Fm} (h : FmOk F) : Calls (endV F.cls []) := endV_calls _ _ _ h.cls fun _ z => nomatch z
theorem sub_cup {C C' : CH} {p : Addr} {o : CO} (s : Sub C C') : Sub (cup C p o) (cup C' p o) := fun a u h => by
  by_cases e : a = p
  · subst e; rw [cup_same] at h ⊢; exact h
  · rw [cup_ne e] at h ⊢; exact s _ _ h
/-- Form(clauses, value, level, other=..): the level told or left out -/
theorem init_ok {n : Nat} {F : Fm} {p : Addr} {lvD : D} {C : CH} {Q : Kv} {E : Kx} (h : FmOk F) (hl : lvD = .int F.lev ∨ (lvD = .non ∧ F.lev = F.dep)) (hp : C p = some (.ins c_Form [])) (hq : Q .non (cup C p (FmO F))) :
    W (n + 14) i_Form___init__ [.ref p, (clsT F.cls).d, F.val.t.d, lvD, (othT F.oth).d] C Q E := by
  rw [W_Form___init__]
  unfold b_Form___init__
  have hlen := h.len
  have h400 : decide ((F.cls.length : Int) ≤ 400) = true := decide_eq_true (by omega)
  rw [rdSs_cons]
  simp_arith [clsT_d, GG_kit, GG_call, List.length_map]
  rw [h400]
  refine need_ok1 ?_
  rw [rdSs_cons]
  simp_arith [GG_call]
  rw [← clsT_d]
  refine walked_ok (n := n) h.cls h.asks h.len fun q C1 hq0 s1 hc1 => ?_
  refine ⟨_, rfl, ?_⟩
  have kn : KnAt C1 (.lst (endV F.cls [])) (.ref q) := .lst hc1 h.calls
  rw [rdSs_cons]
  simp_arith [GG_call]
  refine may_emit_ok (n := n + 3) kn h.val.ok.1 ?_
  have e1 : mayEmit F.val.t (endL F.cls 1) (.lst (endV F.cls [])) = true := h.val.may
  rw [e1]
  refine need_ok1 ?_
  have tail : rdSs (GG (n + 13)) (exN E) (b_Form___init__.drop 4) (endN Q) [some (.ref p), some (clsT F.cls).d, some F.val.t.d, some lvD, some (othT F.oth).d, some (.int (endL F.cls 1)), some (.ref q)] C1 := by
    simp only [b_Form___init__, List.drop]
    have fin : rdSs (GG (n + 13)) (exN E) (b_Form___init__.drop 5) (endN Q) [some (.ref p), some (clsT F.cls).d, some F.val.t.d, some lvD, some (othT F.oth).d, some (.int (endL F.cls 1)), some (.ref q)] C1 := by
      simp only [b_Form___init__, List.drop]
      have hp1 := s1 _ _ hp
      have key : ∀ C2, Sub (cup C p (FmO F)) C2 → ∃ C3, Sub C3 C2 ∧ Q .non C3 := fun C2 s => ⟨_, s, hq⟩
      rcases hl with e | ⟨e, e2⟩
      · subst e
        simp_arith! [sFldC]
        refine ⟨_, _, hp1, by decide, by simp, ?_⟩
        refine ⟨_, _, rfl, by decide, (show (1 : Nat) < 1000 by decide), ?_⟩
        refine ⟨_, _, rfl, by decide, (show (2 : Nat) < 1000 by decide), ?_⟩
        refine ⟨_, _, rfl, by decide, (show (3 : Nat) < 1000 by decide), ?_⟩
        refine ⟨_, _, rfl, by decide, (show (4 : Nat) < 1000 by decide), ?_⟩
        simp only [cup_cup]
        exact key _ (sub_cup s1)
      · subst e
        simp_arith! [sFldC]
        refine ⟨_, _, hp1, by decide, by simp, ?_⟩
        refine ⟨_, _, rfl, by decide, (show (1 : Nat) < 1000 by decide), ?_⟩
        refine ⟨_, _, rfl, by decide, (show (2 : Nat) < 1000 by decide), ?_⟩
        refine ⟨_, _, rfl, by decide, (show (3 : Nat) < 1000 by decide), ?_⟩
        refine ⟨_, _, rfl, by decide, (show (4 : Nat) < 1000 by decide), ?_⟩
        simp only [cup_cup]
        have e3 : endL F.cls 1 = F.lev := e2.symm
        rw [e3]
        have e4 : FmO F = .ins c_Form [("clauses", (clsT F.cls).d), ("value", F.val.t.d), ("level", .int F.lev), ("other", (othT F.oth).d), ("depth", .int F.lev)] := by
          unfold FmO Fm.fs
          rw [← e2]
        rw [e4] at key
        exact key _ (sub_cup s1)
    have oth : rdSs (GG (n + 13)) (exN E) (b_Form___init__.drop 4) (endN Q) [some (.ref p), some (clsT F.cls).d, some F.val.t.d, some lvD, some (othT F.oth).d, some (.int (endL F.cls 1)), some (.ref q)] C1 := by
      simp only [b_Form___init__, List.drop]
      rw [rdSs_cons]
      cases ho : F.oth with
      | none =>
        rw [ho] at fin
        simp_arith [othT, T.d, GG_call]
        exact need_ok1 fin
      | some z =>
        rw [ho] at fin
        obtain ⟨w1, w2⟩ := h.oth z ho
        simp_arith [othT, T.d, GG_call]
        refine is_word_ok (n := n + 12) (t := .str z) w2 ?_
        have : isWord (.str z) = true := w1
        rw [this]
        exact need_ok1 fin
    exact oth
  rw [rdSs_cons]
  rcases hl with e | ⟨e, e2⟩
  · subst e
    simp_arith [GG_call]
    refine is_level_ok (n := n + 11) (t := .int F.lev) ?_
    have e3 : isLevel (.int F.lev) (endL F.cls 1) = true := by
      simp only [isLevel, decide_eq_true h.lev0, Bool.true_and]
      exact decide_eq_true h.lev1
    rw [e3]
    exact need_ok1 tail
  · subst e
    simp_arith [GG_call]
    exact need_ok1 tail

/-! the normal clauses of a form: the mathematics -/
def standL : List Cl → Int → List Int
  | [], _ => []
  | c :: cs, lv => lv :: standL cs (nextL lv c)
abbrev sett (c : Cn) : Cn := settledC c true
def min2 (x y : Int) : Int := if y < x then y else x
def onceC (at_ low : Int) : Cl → Cl × Int
  | .cif k l => (.cif (sett k) l, if 0 < l then min2 low l else low)
  | .frm k => (if low ≤ at_ then .frm (sett k) else .cif (sett k) at_, min2 low at_)
  | .cfor v o => (.cfor v o, min2 low at_)
  | .call v => (.call v, low)
/-- from the last clause to the first one -/
def onceF : List Cl → Int → Int → List Cl × Int
  | [], _, low => ([], low)
  | c :: cs, lv, low =>
    let s := onceF cs (nextL lv c) low
    let q := onceC lv s.2 c
    (q.1 :: s.1, q.2)
def onceR : List (Cl × Int) → Int → List Cl × Int
  | [], low => ([], low)
  | (c, a) :: r, low =>
    let q := onceC a low c
    let s := onceR r q.2
    (q.1 :: s.1, s.2)
theorem onceR_app : ∀ (l m : List (Cl × Int)) (low : Int), onceR (l ++ m) low = ((onceR l low).1 ++ (onceR m (onceR l low).2).1, (onceR m (onceR l low).2).2)
  | [], m, low => rfl
  | (c, a) :: l, m, low => by
    simp only [List.cons_append, onceR, onceR_app l m]
theorem onceR_rev : ∀ (cs : List Cl) (lv low : Int), onceR (cs.zip (standL cs lv)).reverse low = ((onceF cs lv low).1.reverse, (onceF cs lv low).2)
  | [], lv, low => rfl
  | c :: cs, lv, low => by
    simp only [standL, List.zip_cons_cons, List.reverse_cons, onceR_app, onceR_rev cs, onceF, onceR]
def low0 (lev : Int) : Int := if 0 < lev then lev else 4
def joined : Cl → Cl → Option Cl
  | .cif a l, .cif b m => if l = m then some (.cif (.con true (flatC true [a, b])) l) else none
  | _, _ => none
def mrg (c : Cl) : List Cl → List Cl
  | [] => [c]
  | d :: r => match joined c d with
    | some e => mrg e r
    | none => c :: mrg d r
def mergeCls : List Cl → List Cl
  | [] => []
  | c :: r => mrg c r
def normCls (cs : List Cl) (lev : Int) : List Cl := mergeCls (onceF cs 1 (low0 lev)).1
/-! what is kept -/
theorem onceC_next (at_ low lv : Int) (c : Cl) : nextL lv (onceC at_ low c).1 = nextL lv c := by
  cases c with
  | frm k => by_cases h : low ≤ at_ <;> simp [onceC, nextL, h]
  | _ => rfl
theorem onceC_nextV (at_ low : Int) (vs : List T) (c : Cl) : nextV vs (onceC at_ low c).1 = nextV vs c := by
  cases c with
  | frm k => by_cases h : low ≤ at_ <;> simp [onceC, nextV, h]
  | _ => rfl
theorem joined_some {c d e : Cl} (h : joined c d = some e) : ∃ a b l, c = .cif a l ∧ d = .cif b l ∧ e = .cif (.con true (flatC true [a, b])) l := by
  cases c <;> cases d <;> simp only [joined, reduceCtorEq] at h
  split at h
  · rename_i hl; subst hl; cases h; exact ⟨_, _, _, rfl, rfl, rfl⟩
  · cases h
/-- the fit of a clause, its conditions' sizes aside -/
def strCl (lv : Int) (vs : List T) : Cl → Prop
  | .call v => fitTm v lv vs
  | .cif c l => fitC c lv (.lst vs) ∧ 0 ≤ l ∧ l ≤ lv
  | .frm c => fitC c lv (.lst vs)
  | .cfor v o => fitTm v lv vs ∧ lv < 3 ∧ ∀ e, o = some e → fitEm lv vs e
def okCl : Cl → Prop
  | .cif c _ => okC c
  | .frm c => okC c
  | _ => True
def strCls : List Cl → Int → List T → Prop
  | [], _, _ => True
  | c :: cs, lv, vs => strCl lv vs c ∧ strCls cs (nextL lv c) (nextV vs c)
theorem fitCl_iff {lv : Int} {vs : List T} {c : Cl} : fitCl lv vs c ↔ strCl lv vs c ∧ okCl c := by
  cases c <;> simp only [fitCl, strCl, okCl, and_true]
  · exact ⟨fun ⟨a, b, c⟩ => ⟨⟨a, c⟩, b⟩, fun ⟨⟨a, c⟩, b⟩ => ⟨a, b, c⟩⟩
theorem fitCls_str : ∀ {cs : List Cl} {lv : Int} {vs : List T}, fitCls cs lv vs → strCls cs lv vs ∧ ∀ c ∈ cs, okCl c
  | [], _, _, _ => ⟨trivial, fun _ h => nomatch h⟩
  | c :: cs, lv, vs, h => by
    obtain ⟨h1, h2⟩ := fitCls_str h.2
    obtain ⟨k1, k2⟩ := fitCl_iff.mp h.1
    refine ⟨⟨k1, h1⟩, fun d hd => ?_⟩
    rcases List.mem_cons.mp hd with e | hd
    · rw [e]; exact k2
    · exact h2 d hd
theorem fitCls_of : ∀ {cs : List Cl} {lv : Int} {vs : List T}, strCls cs lv vs → (∀ c ∈ cs, okCl c) → fitCls cs lv vs
  | [], _, _, _, _ => trivial
  | c :: cs, lv, vs, h, k => ⟨fitCl_iff.mpr ⟨h.1, k c List.mem_cons_self⟩, fitCls_of h.2 fun d hd => k d (List.mem_cons_of_mem _ hd)⟩
theorem onceC_str {lv low : Int} {vs : List T} {c : Cl} (l1 : 1 ≤ lv) (h : strCl lv vs c) : strCl lv vs (onceC lv low c).1 := by
  cases c with
  | call v => exact h
  | cfor v o => exact h
  | cif k l => exact ⟨(fit_settled true k lv _ h.1).1, h.2⟩
  | frm k =>
    have q := (fit_settled true k lv _ h).1
    simp only [onceC]
    split
    · exact q
    · exact ⟨q, by omega, Int.le_refl _⟩
theorem nextL_ge (lv : Int) (c : Cl) : lv ≤ nextL lv c := by cases c <;> simp only [nextL] <;> omega
theorem onceF_str : ∀ {cs : List Cl} {lv low : Int} {vs : List T}, 1 ≤ lv → strCls cs lv vs → strCls (onceF cs lv low).1 lv vs
  | [], _, _, _, _, _ => trivial
  | c :: cs, lv, low, vs, l1, h => by
    refine ⟨onceC_str l1 h.1, ?_⟩
    rw [onceC_next, onceC_nextV]
    exact onceF_str (by have := nextL_ge lv c; omega) h.2
theorem joined_str {lv : Int} {vs : List T} {c d e : Cl} (j : joined c d = some e) (h : strCl lv vs c) (k : strCl (nextL lv c) (nextV vs c) d) : strCl lv vs e ∧ nextL lv e = nextL (nextL lv c) d ∧ nextV vs e = nextV (nextV vs c) d := by
  obtain ⟨a, b, l, rfl, rfl, rfl⟩ := joined_some j
  obtain ⟨h1, h2⟩ := h
  obtain ⟨k1, k2⟩ := k
  obtain ⟨f1, f2, f3, f4⟩ := fit_flatC (a := true) (ps := [a, b]) (at_ := lv) (kn := .lst vs) ⟨h1, k1, trivial⟩
  refine ⟨⟨⟨?_, f1⟩, h2⟩, rfl, rfl⟩
  simp only [List.length_cons, List.length_nil] at f2; omega
theorem mrg_str : ∀ {r : List Cl} {c : Cl} {lv : Int} {vs : List T}, strCls (c :: r) lv vs → strCls (mrg c r) lv vs
  | [], c, lv, vs, h => h
  | d :: r, c, lv, vs, h => by
    simp only [mrg]
    cases j : joined c d with
    | none => exact ⟨h.1, mrg_str h.2⟩
    | some e =>
      obtain ⟨q1, q2, q3⟩ := joined_str j h.1 h.2.1
      refine mrg_str ⟨q1, ?_⟩
      rw [q2, q3]
      exact h.2.2
theorem merge_str {cs : List Cl} {lv : Int} {vs : List T} (h : strCls cs lv vs) : strCls (mergeCls cs) lv vs := by
  cases cs with
  | nil => exact trivial
  | cons c r => exact mrg_str h
theorem onceF_end : ∀ (cs : List Cl) (lv low m : Int) (vs : List T), endL (onceF cs lv low).1 m = endL cs m ∧ endV (onceF cs lv low).1 vs = endV cs vs
  | [], _, _, _, _ => ⟨rfl, rfl⟩
  | c :: cs, lv, low, m, vs => by
    obtain ⟨h1, h2⟩ := onceF_end cs (nextL lv c) low (nextL m c) (nextV vs c)
    simp only [onceF, endL, endV, onceC_next, onceC_nextV]
    exact ⟨h1, h2⟩
theorem mrg_end : ∀ (r : List Cl) (c : Cl) (m : Int) (vs : List T), endL (mrg c r) m = endL (c :: r) m ∧ endV (mrg c r) vs = endV (c :: r) vs
  | [], _, _, _ => ⟨rfl, rfl⟩
  | d :: r, c, m, vs => by
    simp only [mrg]
    cases j : joined c d with
    | none =>
      obtain ⟨h1, h2⟩ := mrg_end r d (nextL m c) (nextV vs c)
      exact ⟨h1, h2⟩
    | some e =>
      obtain ⟨a, b, l, rfl, rfl, rfl⟩ := joined_some j
      obtain ⟨h1, h2⟩ := mrg_end r (.cif (.con true (flatC true [a, b])) l) m vs
      exact ⟨h1, h2⟩
theorem merge_end (cs : List Cl) (m : Int) (vs : List T) : endL (mergeCls cs) m = endL cs m ∧ endV (mergeCls cs) vs = endV cs vs := by
  cases cs with
  | nil => exact ⟨rfl, rfl⟩
  | cons c r => exact mrg_end r c m vs
theorem norm_end (cs : List Cl) (lev m : Int) (vs : List T) : endL (normCls cs lev) m = endL cs m ∧ endV (normCls cs lev) vs = endV cs vs := by
  obtain ⟨h1, h2⟩ := merge_end (onceF cs 1 (low0 lev)).1 m vs
  obtain ⟨k1, k2⟩ := onceF_end cs 1 (low0 lev) m vs
  exact ⟨h1.trans k1, h2.trans k2⟩
theorem norm_str {cs : List Cl} {lev : Int} {vs : List T} (h : strCls cs 1 vs) : strCls (normCls cs lev) 1 vs := merge_str (onceF_str (Int.le_refl _) h)
/-! the number of questions, the greatest height, the sizes -/
theorem asks_sett {c : Cn} {lv : Int} {kn : Kn} (h : fitC c lv kn) : asks (sett c) = asks c := (fit_settled true c lv kn h).2.1
theorem asks_flat2 (a b : Cn) (lv : Int) (kn : Kn) (h : fitC a lv kn) (k : fitC b lv kn) : askss (flatC true [a, b]) = asks a + asks b := by
  obtain ⟨_, _, f3, _⟩ := fit_flatC (a := true) (ps := [a, b]) (at_ := lv) (kn := kn) ⟨h, k, trivial⟩
  rw [f3]; simp [askss]
theorem onceF_asks : ∀ {cs : List Cl} {lv low : Int} {vs : List T}, strCls cs lv vs → asksL (onceF cs lv low).1 = asksL cs
  | [], _, _, _, _ => rfl
  | c :: cs, lv, low, vs, h => by
    simp only [onceF, asksL, onceF_asks h.2]
    congr 1
    cases c with
    | call v => rfl
    | cfor v o => rfl
    | cif k l => exact asks_sett h.1.1
    | frm k =>
      simp only [onceC]
      split
      · exact asks_sett h.1
      · exact asks_sett h.1
theorem mrg_asks : ∀ {r : List Cl} {c : Cl} {lv : Int} {vs : List T}, strCls (c :: r) lv vs → asksL (mrg c r) = asksL (c :: r)
  | [], c, lv, vs, h => rfl
  | d :: r, c, lv, vs, h => by
    simp only [mrg]
    cases j : joined c d with
    | none => simp only [asksL, mrg_asks h.2]
    | some e =>
      obtain ⟨q1, q2, q3⟩ := joined_str j h.1 h.2.1
      obtain ⟨a, b, l, rfl, rfl, rfl⟩ := joined_some j
      have h2 : strCls (.cif (.con true (flatC true [a, b])) l :: r) lv vs := ⟨q1, h.2.2⟩
      simp only [mrg_asks h2, asksL, askCl, asks, asks_flat2 a b lv (.lst vs) h.1.1 h.2.1.1]
      omega
theorem norm_asks {cs : List Cl} {lev : Int} {vs : List T} (h : strCls cs 1 vs) : asksL (normCls cs lev) = asksL cs := by
  have h1 := onceF_str (low := low0 lev) (Int.le_refl _) h
  have h2 := onceF_asks (low := low0 lev) h
  unfold normCls
  cases e : (onceF cs 1 (low0 lev)).1 with
  | nil => rw [e] at h2; exact h2
  | cons c r => rw [e] at h1 h2; exact (mrg_asks h1).trans h2
theorem onceF_len : ∀ (cs : List Cl) (lv low : Int), (onceF cs lv low).1.length = cs.length
  | [], _, _ => rfl
  | c :: cs, lv, low => by simp only [onceF, List.length_cons, onceF_len cs]
theorem mrg_len : ∀ (r : List Cl) (c : Cl), (mrg c r).length ≤ r.length + 1
  | [], c => Nat.le_refl _
  | d :: r, c => by
    simp only [mrg, List.length_cons]
    cases j : joined c d with
    | none => have := mrg_len r d; simp only [List.length_cons]; omega
    | some e => have := mrg_len r e; simp only; omega
theorem norm_len (cs : List Cl) (lev : Int) : (normCls cs lev).length ≤ cs.length := by
  unfold normCls
  have := onceF_len cs 1 (low0 lev)
  cases e : (onceF cs 1 (low0 lev)).1 with
  | nil => simp [mergeCls]
  | cons c r => rw [e] at this; have := mrg_len r c; simp only [mergeCls, List.length_cons] at *; omega
/-! normal of normal -/
theorem min2_twice (x y : Int) : min2 (min2 x y) y = min2 x y := by unfold min2; by_cases h : y < x <;> simp [h]
theorem sett_sett (c : Cn) : sett (sett c) = sett c := by
  show settledC (settledC c true) true = settledC c true
  rw [settled_twice]; rfl
def Fix (cs : List Cl) (lv low : Int) : Prop := (onceF cs lv low).1 = cs
theorem onceF_fix : ∀ (cs : List Cl) (lv low : Int), 1 ≤ lv → onceF (onceF cs lv low).1 lv low = onceF cs lv low
  | [], _, _, _ => rfl
  | c :: cs, lv, low, l1 => by
    have ih := onceF_fix cs (nextL lv c) low (by have := nextL_ge lv c; omega)
    simp only [onceF, onceC_next, ih]
    generalize onceF cs (nextL lv c) low = s
    have e : onceC lv s.2 (onceC lv s.2 c).1 = onceC lv s.2 c := by
      cases c with
      | call v => rfl
      | cfor v o => rfl
      | cif k l => simp only [onceC, sett_sett]
      | frm k =>
        by_cases hl : s.2 ≤ lv
        · simp only [onceC, hl, if_true, sett_sett]
        · have : 0 < lv := by omega
          simp only [onceC, hl, if_false, sett_sett, this, if_true]
    rw [e]
theorem sett_join {a b : Cn} (ha : sett a = a) (hb : sett b = b) : sett (.con true (flatC true [a, b])) = .con true (flatC true [a, b]) := by
  show settledC (.con true (flatC true [a, b])) true = _
  simp only [settledC]
  have e : (true == true) = true := rfl
  have := flat_flat true true [a, b]
  rw [e] at this ⊢
  rw [this]
  have e2 : settledCs [a, b] true = [a, b] := by
    simp only [settledCs]
    rw [show settledC a true = a from ha, show settledC b true = b from hb]
  rw [e2]
theorem mrg_fix : ∀ (r : List Cl) (c : Cl) (lv low : Int), Fix (c :: r) lv low → onceF (mrg c r) lv low = (mrg c r, (onceF (c :: r) lv low).2)
  | [], c, lv, low, h => by
    have h' : (onceF [c] lv low).1 = [c] := h
    simp only [mrg]
    exact Prod.ext h' rfl
  | d :: r, c, lv, low, h => by
    have h1 : (onceC lv (onceF (d :: r) (nextL lv c) low).2 c).1 = c := (List.cons.inj h).1
    have h2 : (onceF (d :: r) (nextL lv c) low).1 = d :: r := (List.cons.inj h).2
    simp only [mrg]
    cases j : joined c d with
    | none =>
      have ih := mrg_fix r d (nextL lv c) low h2
      show (let s := onceF (mrg d r) (nextL lv c) low; let q := onceC lv s.2 c; (q.1 :: s.1, q.2)) = _
      simp only [ih]
      rw [h1]
      rfl
    | some e =>
      obtain ⟨a, b, l, rfl, rfl, rfl⟩ := joined_some j
      have k1 : (onceC lv (onceF r lv low).2 (.cif b l)).1 = .cif b l := (List.cons.inj h2).1
      have k2 : (onceF r lv low).1 = r := (List.cons.inj h2).2
      have sb : sett b = b := by simp only [onceC, Cl.cif.injEq, and_true] at k1; exact k1
      have sa : sett a = a := by simp only [onceC, Cl.cif.injEq, and_true] at h1; exact h1
      have hj := sett_join sa sb
      have fx : Fix (.cif (.con true (flatC true [a, b])) l :: r) lv low := by
        show (onceC lv (onceF r lv low).2 _).1 :: (onceF r lv low).1 = _
        simp only [onceC, hj, k2]
      have ih := mrg_fix r _ lv low fx
      rw [ih]
      refine Prod.ext rfl ?_
      show (onceC lv (onceF r lv low).2 (.cif (.con true (flatC true [a, b])) l)).2 = (onceC lv (onceC lv (onceF r lv low).2 (.cif b l)).2 (.cif a l)).2
      simp only [onceC]
      split
      · rw [min2_twice]
      · rfl
/-- no two that can be joined stand next to each other -/
def Sep : List Cl → Prop
  | [] => True
  | [_] => True
  | c :: d :: r => joined c d = none ∧ Sep (d :: r)
theorem merge_sep : ∀ {cs : List Cl}, Sep cs → mergeCls cs = cs
  | [], _ => rfl
  | [c], _ => rfl
  | c :: d :: r, h => by
    have := merge_sep (cs := d :: r) h.2
    simp only [mergeCls, mrg, h.1] at this ⊢
    rw [this]
theorem mrg_head : ∀ (r : List Cl) (c : Cl), ∃ e rest, mrg c r = e :: rest ∧ ∀ d, (joined d e).isSome = (joined d c).isSome
  | [], c => ⟨c, [], rfl, fun _ => rfl⟩
  | d :: r, c => by
    simp only [mrg]
    cases j : joined c d with
    | none => exact ⟨c, _, rfl, fun _ => rfl⟩
    | some e =>
      obtain ⟨f, rest, h1, h2⟩ := mrg_head r e
      refine ⟨f, rest, h1, fun x => (h2 x).trans ?_⟩
      obtain ⟨a, b, l, rfl, rfl, rfl⟩ := joined_some j
      cases x <;> simp only [joined]
      split <;> rfl
theorem mrg_sep : ∀ (r : List Cl) (c : Cl), Sep (mrg c r)
  | [], c => trivial
  | d :: r, c => by
    simp only [mrg]
    cases j : joined c d with
    | none =>
      obtain ⟨e, rest, h1, h2⟩ := mrg_head r d
      have h3 := mrg_sep r d
      simp only
      rw [h1] at h3 ⊢
      refine ⟨?_, h3⟩
      have := h2 c
      rw [j] at this
      cases q : joined c e with
      | none => rfl
      | some x => rw [q] at this; cases this
    | some e => exact mrg_sep r e
theorem norm_norm (cs : List Cl) (lev : Int) : normCls (normCls cs lev) lev = normCls cs lev := by
  unfold normCls
  have fx := onceF_fix cs 1 (low0 lev) (Int.le_refl _)
  generalize e : (onceF cs 1 (low0 lev)).1 = x at fx
  cases x with
  | nil => rfl
  | cons c r =>
    have h : Fix (c :: r) 1 (low0 lev) := by show (onceF (c :: r) 1 (low0 lev)).1 = _; rw [fx, e]
    show mergeCls (onceF (mrg c r) 1 (low0 lev)).1 = mrg c r
    rw [mrg_fix r c 1 _ h]
    exact merge_sep (mrg_sep r c)

/-! the normal clauses: the walk -/
abbrev clD (c : Cl) : D := c.t.d
theorem ne_call_for : (Str.ofString "call" = Str.ofString "for") = False := by simp; decide
theorem ne_if_for : (Str.ofString "if" = Str.ofString "for") = False := by simp; decide
theorem ne_from_for : (Str.ofString "from" = Str.ofString "for") = False := by simp; decide
theorem ne_call_if : (Str.ofString "call" = Str.ofString "if") = False := by simp; decide
theorem ne_for_if : (Str.ofString "for" = Str.ofString "if") = False := by simp; decide
theorem ne_from_if : (Str.ofString "from" = Str.ofString "if") = False := by simp; decide
theorem ne_call_from : (Str.ofString "call" = Str.ofString "from") = False := by simp; decide
theorem ne_for_from : (Str.ofString "for" = Str.ofString "from") = False := by simp; decide
def standB : List CS := match b_standings with
  | [_, _, .forS _ _ _ b, _] => b
  | _ => []
theorem stand_loop {n : Nat} {E : Kx} {C0 : CH} {q : Addr} {Dd : EndsC} {x0 : Option D} (hq : C0 q = none) :
    ∀ (cs : List Cl) (acc : List Int) (lv : Int) (y : Option D) (C : CH), Sub C0 C → C q = some (.lst (acc.map D.int)) → acc.length + cs.length ≤ 100000 →
      (∀ y y2 C', Sub C0 C' → C' q = some (.lst ((acc ++ standL cs lv).map D.int)) → Dd.nx [x0, some (.ref q), y2, y] C') →
      forL (hT (.nm 3)) (rdSs (GG n) (exN E) standB) (fun _ => True) Dd (cs.map clD) [x0, some (.ref q), some (.int lv), y] C
  | [], acc, lv, y, C, hs, hc, hl, hK => ⟨trivial, hK _ _ C hs (by simpa [standL] using hc)⟩
  | c :: cs, acc, lv, y, C, hs, hc, hl, hK => by
    refine ⟨trivial, _, rfl, ?_⟩
    simp only [List.length_cons] at hl
    have hsl : 1000000 ≤ sizeLine := by decide
    simp only [standB, b_standings]
    rw [rdSs_cons]
    simp_arith []
    refine ⟨isLst_of hc, q, _, _, rfl, rfl, hc, by rw [List.length_map]; omega, ?_⟩
    try dsimp only
    rw [rdSs_cons]
    obtain ⟨x, r, e⟩ := cl_at c
    have e' : clD c = .tup (.str (clW c) :: x :: r) := e
    rw [e']
    simp_arith [oEqN_strI (so_clW c) so_for]
    have en : lv + (if decide (clW c = Str.ofString "for") = true then (1 : Int) else 0) = nextL lv c := by
      cases c with
      | cfor v o => simp [clW, nextL]
      | call v => simp [clW, nextL, ne_call_for]
      | cif k l => simp [clW, nextL, ne_if_for]
      | frm k => simp [clW, nextL, ne_from_for]
    rw [en, ← e']
    refine stand_loop hq cs (acc ++ [lv]) _ _ _ (sub_at hq hs) (by rw [cup_same]; simp) (by simp; omega) fun y y2 C' h1 h2 => hK y y2 C' h1 ?_
    rw [h2]
    simp [standL]
theorem standings_ok {n : Nat} {cs : List Cl} {C : CH} {Q : Kv} {E : Kx} (hl : cs.length ≤ 1000) (hq : ∀ p C', C p = none → Sub C C' → C' p = some (.lst ((standL cs 1).map D.int)) → Q (.ref p) C') : W (n + 1) i_standings [(clsT cs).d] C Q E := by
  rw [W_standings]
  unfold b_standings
  rw [rdSs_cons]
  simp_arith [oLst]
  intro p hp
  rw [rdSs_cons]
  simp_arith []
  rw [rdSs_cons]
  simp_arith [sFor, iSeq, clsT_d]
  refine stand_loop (n := n) hp cs [] 1 _ _ (sub_new hp) cup_same (by simp; omega) fun y y2 C' h1 h2 => ?_
  dsimp only
  rw [rdSs_cons]
  simp_arith []
  exact ⟨C', Sub.refl, hq p C' hp h1 (by simpa using h2)⟩
/-! once_settled -/
def onceB : List CS := match b_once_settled with
  | [_, _, _, .forS _ _ _ b, _] => b
  | _ => []
/-- what a condition of a clause must be like -/
structure HtC (h : Nat) (c : Cn) : Prop where
  ht : ht c ≤ h
  sz : csize c ≤ 100000
def htCl (h : Nat) : Cl → Prop
  | .cif c _ => HtC h c
  | .frm c => HtC h c
  | _ => True
theorem once_turn {n h : Nat} {E : Kx} {C0 C : CH} {q : Addr} {low a : Int} {c : Cl} {acc : List Cl} {Dd : EndsC} {x0 x1 x2 y7 : Option D} (hh : htCl h c) (hq : C0 q = none) (hs : Sub C0 C) (hc : C q = some (.lst (acc.map clD))) (hl : acc.length < 100000)
    (hK : ∀ y5 y6 y7 C', Sub C0 C' → C' q = some (.lst ((acc ++ [(onceC a low c).1]).map clD)) → Dd.nx [x0, x1, x2, some (.ref q), some (.int (onceC a low c).2), y5, y6, y7] C') :
    rdSs (GG (n + h + 2)) (exN E) onceB Dd [x0, x1, x2, some (.ref q), some (.int low), some (clD c), some (.int a), y7] C := by
  have hsl : 1000000 ≤ sizeLine := by decide
  have al : (acc.map clD).length < sizeLine := by rw [List.length_map]; omega
  simp only [onceB, b_once_settled]
  rw [rdSs_cons]
  cases c with
  | cif k l =>
    simp_arith [clD, Cl.t, T.d, T.ds, oEqN_strI so_if so_if, decide_true, GG_call]
    rw [rdSs_cons]
    simp_arith [GG_call]
    refine ⟨isLst_of hc, ?_⟩
    refine settled_ok h n k true C _ _ hh.ht (by have := hh.sz; omega) ?_
    refine ⟨q, _, _, rfl, rfl, hc, al, ?_⟩
    try dsimp only
    rw [rdSs_cons]
    have fin := hK (some (clD (.cif k l))) (some (.int a)) y7 (cup C q (.lst (acc.map clD ++ [clD (.cif (sett k) l)]))) (sub_at hq hs) (by rw [cup_same]; simp [onceC])
    by_cases h0 : 0 < l
    · simp_arith [h0, decide_true, oMin2]
      refine ⟨_, _, ⟨rfl, rfl⟩, ?_⟩
      simp only [onceC, h0, if_true, clD, Cl.t, T.d, T.ds] at fin
      exact fin
    · simp_arith [h0, decide_false]
      simp only [onceC, h0, if_false, clD, Cl.t, T.d, T.ds] at fin
      exact fin
  | frm k =>
    simp_arith [clD, Cl.t, T.d, T.ds, oEqN_strI so_from so_if, ne_from_if, decide_false, GG_call]
    rw [rdSs_cons]
    simp_arith [oEqN_strI so_from so_from, decide_true]
    rw [rdSs_cons]
    simp_arith [GG_call]
    refine settled_ok h n k true C _ _ hh.ht (by have := hh.sz; omega) ?_
    try dsimp only
    try simp_arith []
    rw [rdSs_cons]
    simp_arith []
    refine ⟨isLst_of hc, ?_⟩
    by_cases h0 : low ≤ a
    · simp_arith [h0, decide_true]
      refine ⟨q, _, _, rfl, rfl, hc, al, ?_⟩
      try dsimp only
      rw [rdSs_cons]
      simp_arith [oMin2]
      refine ⟨_, _, ⟨rfl, rfl⟩, ?_⟩
      have fin := hK (some (clD (.frm k))) (some (.int a)) (some (sett k).t.d) (cup C q (.lst (acc.map clD ++ [clD (.frm (sett k))]))) (sub_at hq hs) (by rw [cup_same]; simp [onceC, h0])
      simp only [onceC, h0, if_true, clD, Cl.t, T.d, T.ds] at fin
      exact fin
    · simp_arith [h0, decide_false]
      refine ⟨q, _, _, rfl, rfl, hc, al, ?_⟩
      try dsimp only
      rw [rdSs_cons]
      simp_arith [oMin2]
      refine ⟨_, _, ⟨rfl, rfl⟩, ?_⟩
      have fin := hK (some (clD (.frm k))) (some (.int a)) (some (sett k).t.d) (cup C q (.lst (acc.map clD ++ [clD (.cif (sett k) a)]))) (sub_at hq hs) (by rw [cup_same]; simp [onceC, h0])
      simp only [onceC, h0, if_false, clD, Cl.t, T.d, T.ds] at fin
      exact fin
  | call v =>
    simp_arith [clD, Cl.t, T.d, T.ds, oEqN_strI so_call so_if, ne_call_if, decide_false, GG_call]
    rw [rdSs_cons]
    simp_arith [oEqN_strI so_call so_from, ne_call_from, decide_false]
    rw [rdSs_cons]
    simp_arith [GG_call]
    refine ⟨isLst_of hc, ?_⟩
    refine ⟨q, _, _, rfl, rfl, hc, al, ?_⟩
    try dsimp only
    rw [rdSs_cons]
    simp_arith [oEqN_strI so_call so_for, ne_call_for, decide_false]
    have fin := hK (some (clD (.call v))) (some (.int a)) y7 (cup C q (.lst (acc.map clD ++ [clD (.call v)]))) (sub_at hq hs) (by rw [cup_same]; simp [onceC])
    simp only [onceC, clD, Cl.t, T.d, T.ds] at fin
    exact fin
  | cfor v o =>
    simp_arith [clD, Cl.t, T.d, T.ds, oEqN_strI so_for so_if, ne_for_if, decide_false, GG_call]
    rw [rdSs_cons]
    simp_arith [oEqN_strI so_for so_from, ne_for_from, decide_false]
    rw [rdSs_cons]
    simp_arith [GG_call]
    refine ⟨isLst_of hc, ?_⟩
    refine ⟨q, _, _, rfl, rfl, hc, al, ?_⟩
    try dsimp only
    rw [rdSs_cons]
    simp_arith [oEqN_strI so_for so_for, decide_true, oMin2]
    refine ⟨_, _, ⟨rfl, rfl⟩, ?_⟩
    have fin := hK (some (clD (.cfor v o))) (some (.int a)) y7 (cup C q (.lst (acc.map clD ++ [clD (.cfor v o)]))) (sub_at hq hs) (by rw [cup_same]; simp [onceC])
    simp only [onceC, clD, Cl.t, T.d, T.ds] at fin
    exact fin
def pairD (x : Cl × Int) : D := .tup [clD x.1, .int x.2]
theorem once_loop {n h : Nat} {E : Kx} {C0 : CH} {q l0 : Addr} {all : List D} {Dd : EndsC} {x0 x1 x2 : Option D} (hq : C0 q = none) (h0 : C0 l0 = some (.lst all)) :
    ∀ (xs : List (Cl × Int)) (acc : List Cl) (low : Int) (y5 y6 y7 : Option D) (C : CH), (∀ x ∈ xs, htCl h x.1) → Sub C0 C → C q = some (.lst (acc.map clD)) → acc.length + xs.length ≤ 100000 →
      (∀ y4 y5 y6 y7 C', Sub C0 C' → C' q = some (.lst ((acc ++ (onceR xs low).1).map clD)) → Dd.nx [x0, x1, x2, some (.ref q), y4, y5, y6, y7] C') →
      forL (hT (.tp [5, 6])) (rdSs (GG (n + h + 2)) (exN E) onceB) (fun C => LsC C l0 all) Dd (xs.map pairD) [x0, x1, x2, some (.ref q), some (.int low), y5, y6, y7] C
  | [], acc, low, y5, y6, y7, C, hh, hs, hc, hl, hK => ⟨hs _ _ h0, hK _ _ _ _ C hs (by simpa [onceR] using hc)⟩
  | (c, a) :: xs, acc, low, y5, y6, y7, C, hh, hs, hc, hl, hK => by
    refine ⟨hs _ _ h0, _, rfl, ?_⟩
    simp only [List.length_cons] at hl
    refine once_turn (n := n) (h := h) (c := c) (a := a) (hh _ List.mem_cons_self) hq hs hc (by omega) fun z5 z6 z7 C' h1 h2 => ?_
    refine once_loop hq h0 xs (acc ++ [(onceC a low c).1]) _ _ _ _ C' (fun x hx => hh x (List.mem_cons_of_mem _ hx)) h1 h2 (by simp; omega) fun w4 w5 w6 w7 C'' k1 k2 => hK w4 w5 w6 w7 C'' k1 ?_
    rw [k2]
    simp [onceR]
theorem standL_len : ∀ (cs : List Cl) (lv : Int), (standL cs lv).length = cs.length
  | [], _ => rfl
  | c :: cs, lv => by simp [standL, standL_len cs]
theorem zip_pairs (cs : List Cl) (is : List Int) : ((cs.map clD).zip (is.map D.int)).map (fun q => D.tup [q.1, q.2]) = (cs.zip is).map pairD := by
  rw [List.zip_map, List.map_map]
  rfl
theorem once_settled_ok {n h : Nat} {cs : List Cl} {lev : Int} {C : CH} {Q : Kv} {E : Kx} (hl : cs.length ≤ 1000) (hh : ∀ c ∈ cs, htCl h c)
    (hq : ∀ p C', C p = none → Sub C C' → C' p = some (.lst ((onceF cs 1 (low0 lev)).1.map clD)) → Q (.ref p) C') : W (n + h + 3) i_once_settled [(clsT cs).d, .int lev] C Q E := by
  rw [W_once_settled]
  unfold b_once_settled
  rw [rdSs_cons]
  simp_arith [GG_call]
  refine standings_ok (n := n + h + 1) hl fun s C1 hs0 s1 hs => ?_
  try dsimp only
  rw [rdSs_cons]
  simp_arith [oLst]
  intro q hq0
  have s2 := s1.trans (sub_new (o := .lst []) hq0)
  have hs2 := cup_old (u := .lst []) hq0 hs
  have hqc := cup_same (C := C1) (a := q) (o := .lst [])
  have hC1 : C q = none := by
    cases e : C q with
    | none => rfl
    | some u => rw [s1 _ _ e] at hq0; cases hq0
  generalize e2 : cup C1 q (.lst []) = C2 at s2 hs2 hqc
  have body : ∀ low : Int, low = low0 lev → rdSs (GG (n + h + 2)) (exN E) (b_once_settled.drop 3) (endN Q) [some (clsT cs).d, some (.int lev), some (.ref s), some (.ref q), some (.int low), none, none, none] C2 := by
    intro low hlow
    subst hlow
    simp only [b_once_settled, List.drop]
    rw [rdSs_cons]
    simp_arith [sFor, iSeq, cRev, cLzip, clsT_d]
    refine ⟨_, _, ⟨rfl, rfl⟩, _, SqC_tup.mpr rfl, _, SqC_ref.mpr hs2, fun l hl0 => ?_⟩
    rw [show (cs.map fun c => c.t.d) = cs.map clD from rfl, zip_pairs]
    intro m hm
    rw [← List.map_reverse]
    have nq : q ≠ l := fun z => by rw [z, hl0] at hqc; cases hqc
    have hm1 : C2 m = none := by
      by_cases z : m = l
      · rw [z]; exact hl0
      · rw [cup_ne z] at hm; exact hm
    have nm : q ≠ m := fun z => by rw [z, hm1] at hqc; cases hqc
    have hq3 : cup (cup C2 l (.lst ((cs.zip (standL cs 1)).map pairD))) m (.lst ((cs.zip (standL cs 1)).reverse.map pairD)) q = some (.lst (([] : List Cl).map clD)) := by
      rw [cup_ne nm, cup_ne nq]; exact hqc
    generalize e3 : cup (cup C2 l (.lst ((cs.zip (standL cs 1)).map pairD))) m (.lst ((cs.zip (standL cs 1)).reverse.map pairD)) = C3 at hq3
    -- the base: all but q
    let B : CH := fun b => if b = q then none else C3 b
    have bq : B q = none := if_pos rfl
    have sB : Sub B C3 := fun a o e => by
      by_cases z : a = q
      · rw [z, bq] at e; cases e
      · have : B a = C3 a := if_neg z
        rw [this] at e; exact e
    have hmB : B m = some (.lst ((cs.zip (standL cs 1)).reverse.map pairD)) := by
      have : B m = C3 m := if_neg (Ne.symm nm)
      rw [this, ← e3]; exact cup_same
    have sCB : Sub C B := fun a o e => by
      have z : a ≠ q := fun z => by rw [z, hC1] at e; cases e
      have : B a = C3 a := if_neg z
      rw [this, ← e3]
      have k2 := s2 _ _ e
      exact cup_old hm (cup_old hl0 k2)
    refine once_loop (n := n) (h := h) (acc := []) bq hmB _ _ _ _ _ _ (fun x hx => ?_) sB hq3 (by simp [standL_len]; omega) fun y4 y5 y6 y7 C4 k1 k2 => ?_
    · have := List.mem_reverse.mp hx
      exact hh _ (List.of_mem_zip this).1
    dsimp only
    rw [rdSs_cons]
    simp_arith [cRev]
    rw [onceR_rev, List.nil_append] at k2
    refine ⟨_, k2, fun z hz => ?_⟩
    refine ⟨_, Sub.refl, hq z _ ?_ ((sCB.trans k1).trans (sub_new hz)) ?_⟩
    · cases e : C z with
      | none => rfl
      | some u => rw [k1 _ _ (sCB _ _ e)] at hz; cases hz
    · rw [cup_same, ← List.map_reverse, List.reverse_reverse]
  rw [rdSs_cons]
  by_cases h0 : 0 < lev
  · simp_arith [h0, decide_true]
    have := body lev (by unfold low0; rw [if_pos h0])
    simp only [b_once_settled, List.drop] at this
    exact this
  · simp_arith [h0, decide_false]
    have := body 4 (by unfold low0; rw [if_neg h0])
    simp only [b_once_settled, List.drop] at this
    exact this

/-! clauses of one level next to each other are put together: the walk -/
def stepM (acc : List Cl) (c : Cl) : List Cl := match acc.getLast? with
  | some b => match joined b c with
    | some e => acc.dropLast ++ [e]
    | none => acc ++ [c]
  | none => acc ++ [c]
theorem stepM_snoc (pre : List Cl) (b c : Cl) : stepM (pre ++ [b]) c = match joined b c with
    | some e => pre ++ [e]
    | none => pre ++ [b] ++ [c] := by
  simp only [stepM, List.getLast?_append, List.getLast?_singleton, Option.some_or, List.dropLast_concat]
theorem fold_mrg : ∀ (r pre : List Cl) (c : Cl), r.foldl stepM (pre ++ [c]) = pre ++ mrg c r
  | [], pre, c => rfl
  | d :: r, pre, c => by
    rw [List.foldl_cons, stepM_snoc]
    simp only [mrg]
    cases j : joined c d with
    | some e => exact fold_mrg r pre e
    | none =>
      have := fold_mrg r (pre ++ [c]) d
      simp only at this ⊢
      rw [this]; simp
theorem fold_merge (cs : List Cl) : cs.foldl stepM [] = mergeCls cs := by
  cases cs with
  | nil => rfl
  | cons c r => exact fold_mrg r [] c
/-- what a condition's parts are like -/
def Part (c : Cn) : Prop := okT c.t = true ∧ c.t.p.depth ≤ 260
def TameC (k : Cn) : Prop := (∀ p ∈ flat1 true k, Part p) ∧ 1 ≤ (flat1 true k).length
def TameCl : Cl → Prop
  | .cif k _ => TameC k
  | .frm k => TameC k
  | c => okT c.t = true ∧ c.t.p.depth ≤ 290
def sizeCl : Cl → Nat
  | .cif k _ => csize k + 1
  | .frm k => csize k + 1
  | _ => 1
def sizeL (cs : List Cl) : Nat := (cs.map sizeCl).sum
theorem tame_ok {k : Cn} (h : TameC k) : okT k.t = true ∧ k.t.p.depth ≤ 262 := by
  cases k with
  | con b qs =>
    by_cases hb : b = true
    · subst hb
      have h1 := h.1
      simp only [flat1, if_true] at h1
      have q := depths_le (m := 260) (ts := Cn.ts qs) fun t ht => by
        rw [Cn.ts_map] at ht
        obtain ⟨c, hc, rfl⟩ := List.mem_map.mp ht
        exact h1 c hc
      have ok : okTs (Cn.ts qs) = true := by
        have : ∀ cs : List Cn, (∀ c ∈ cs, Part c) → okTs (Cn.ts cs) = true := fun cs => by
          induction cs with
          | nil => intro _; rfl
          | cons c cs ih =>
            intro hh
            simp only [Cn.ts, okTs, (hh c List.mem_cons_self).1, ih fun x hx => hh x (List.mem_cons_of_mem _ hx), Bool.and_self]
        exact this qs h1
      refine ⟨?_, ?_⟩
      · show (okT (.str (cw true)) && (okTs (Cn.ts qs) && true)) = true
        rw [ok_cw, ok]; rfl
      · simp only [Cn.t, T.p, T.pl, PyData.depth, PyData.depthAll]
        have := q.2
        omega
    · have h1 := h.1 (.con b qs) (by simp [flat1, hb])
      exact ⟨h1.1, by have := h1.2; omega⟩
  | ask t w => have h1 := h.1 (.ask t w) (by simp [flat1]); exact ⟨h1.1, by have := h1.2; omega⟩
  | qu b t c => have h1 := h.1 (.qu b t c) (by simp [flat1]); exact ⟨h1.1, by have := h1.2; omega⟩
theorem tameCl_ok {c : Cl} (h : TameCl c) : okT c.t = true ∧ c.t.p.depth ≤ 290 := by
  cases c with
  | cif k l =>
    obtain ⟨a, b⟩ := tame_ok h
    refine ⟨?_, ?_⟩
    · show (okT (.str "if") && (okT k.t && (true && true))) = true
      rw [ok_if, a]; rfl
    · simp only [Cl.t, T.p, T.pl, PyData.depth, PyData.depthAll]; omega
  | frm k =>
    obtain ⟨a, b⟩ := tame_ok h
    refine ⟨?_, ?_⟩
    · show (okT (.str "from") && (okT k.t && true)) = true
      rw [ok_from, a]; rfl
    · simp only [Cl.t, T.p, T.pl, PyData.depth, PyData.depthAll]; omega
  | call v => exact h
  | cfor v o => exact h
theorem tame_join {a b : Cn} (h : TameC a) (k : TameC b) : TameC (.con true (flatC true [a, b])) := by
  have e : flat1 true (.con true (flatC true [a, b])) = flat1 true a ++ flat1 true b := by simp [flat1, flatC]
  rw [TameC, e]
  refine ⟨fun p hp => ?_, ?_⟩
  · rcases List.mem_append.mp hp with hp | hp
    · exact h.1 p hp
    · exact k.1 p hp
  · rw [List.length_append]; have := h.2; omega
theorem tame_of {k : Cn} {lv : Int} {kn : Kn} (h : fitC k lv kn) (hh : ht k ≤ 100) : TameC k := by
  obtain ⟨f1, f2, f3, f4⟩ := fit_flat1 (a := true) h
  refine ⟨fun p hp => ?_, f2⟩
  have := hts_mem hp
  obtain ⟨a, b, _⟩ := fit_ok p lv kn (fitCs_mem f1 hp)
  exact ⟨a, by omega⟩
theorem join_size {a b : Cn} {l : Int} : sizeCl (.cif (.con true (flatC true [a, b])) l) ≤ sizeCl (.cif a l) + sizeCl (.cif b l) := by
  have := flatC_size true [a, b]
  simp only [sizeCl, csize, csizes] at *
  omega
theorem atI_snoc {α : Type} {xs : List α} {x : α} : L2.atI (xs ++ [x]) (-1) = some x := by
  rw [atI_last (by simp)]; simp
def mergeB : List CS := match b_normal_clauses with
  | [_, .forS _ _ _ b, _] => b
  | _ => []
theorem merge_turn {n : Nat} {E : Kx} {C0 C : CH} {q : Addr} {c : Cl} {acc : List Cl} {Dd : EndsC} {x0 x1 : Option D} (hq : C0 q = none) (hs : Sub C0 C) (hc : C q = some (.lst (acc.map clD))) (hl : acc.length < 100000) (ht : ∀ a ∈ acc, TameCl a) (htc : TameCl c) (hz : sizeL acc + sizeCl c ≤ 1000000)
    (hK : ∀ C', Sub C0 C' → C' q = some (.lst ((stepM acc c).map clD)) → Dd.nx [x0, x1, some (.ref q), some (clD c)] C') :
    rdSs (GG (n + 1)) (exN E) mergeB Dd [x0, x1, some (.ref q), some (clD c)] C := by
  have hsl : 1000000 ≤ sizeLine := by decide
  have al : (acc.map clD).length < sizeLine := by rw [List.length_map]; omega
  obtain ⟨xx, rr, ec⟩ := cl_at c
  have ec' : clD c = .tup (.str (clW c) :: xx :: rr) := ec
  have push : ∀ C1, Sub C0 C1 → C1 q = some (.lst (acc.map clD)) → stepM acc c = acc ++ [c] → rdSs (GG (n + 1)) (exN E) [.expr (.mt .append (.var 2) [(.var 3)])] Dd [x0, x1, some (.ref q), some (clD c)] C1 := by
    intro C1 s1 h1 e
    rw [rdSs_cons]
    simp_arith []
    refine ⟨isLst_of h1, q, _, _, rfl, rfl, h1, al, ?_⟩
    refine hK _ (sub_at hq s1) ?_
    rw [cup_same, e]; simp
  simp only [mergeB, b_normal_clauses]
  rw [rdSs_cons]
  simp_arith [oLst]
  intro r hr
  have e1 : acc.map clD = T.ds (acc.map Cl.t) := by rw [T.ds_map, List.map_map]; rfl
  rw [e1] at hc
  refine ts_ne (ts := acc.map Cl.t) (fun t h => ?_) (cup_old hr hc) cup_same ?_
  · obtain ⟨a, ha, rfl⟩ := List.mem_map.mp h
    obtain ⟨k1, k2⟩ := tameCl_ok (ht a ha)
    exact ⟨k1, by omega⟩
  rw [← e1] at hc
  have s1 := hs.trans (sub_new (o := .lst []) hr)
  have hc1 := cup_old (u := .lst []) hr hc
  generalize cup C r (.lst []) = C1 at s1 hc1
  rcases List.eq_nil_or_concat acc with e | ⟨pre, b, e⟩
  · subst e
    have := push C1 s1 hc1 rfl
    simp_arith [List.isEmpty, List.map_nil]
    exact this
  rw [List.concat_eq_append] at e
  subst e
  have ne : ((pre ++ [b]).map Cl.t).isEmpty = false := by simp
  rw [ne]
  simp_arith []
  have la : L2.atI ((pre ++ [b]).map clD) (-1) = some (clD b) := by rw [List.map_append]; exact atI_snoc
  rw [ec']
  simp_arith [oEqN_strI (so_clW c) so_if]
  have tb := ht b (by simp)
  by_cases h1 : clW c = Str.ofString "if"
  · cases c with
    | cif k l =>
      have ex : D.tup [D.str (Str.ofString "if"), k.t.d, .int l] = D.tup (D.str (Str.ofString "if") :: xx :: rr) := ec
      simp only [D.tup.injEq, List.cons.injEq, true_and] at ex
      obtain ⟨rfl, rfl⟩ := ex
      rw [if_pos (decide_eq_true h1)]
      refine oIxA_lst hc1 la ?_
      obtain ⟨yy, ss, eb⟩ := cl_at b
      have eb' : clD b = .tup (.str (clW b) :: yy :: ss) := eb
      rw [eb']
      simp_arith [oEqN_strI (so_clW b) so_if]
      by_cases h2 : clW b = Str.ofString "if"
      · cases b with
        | cif j m =>
          rw [if_pos (decide_eq_true h2)]
          refine oIxA_lst hc1 la ?_
          simp_arith [clD, Cl.t, T.d, T.ds]
          by_cases h3 : m = l
          · subst h3
            rw [if_pos (decide_eq_true rfl)]
            rw [rdSs_cons]
            simp_arith [GG_call, oLst]
            refine oIxA_lst hc1 la ?_
            simp_arith [clD, Cl.t, T.d, T.ds]
            intro s hs0
            have zz : csizes [j, k] ≤ sizeLine := by
              have : sizeCl (.cif j m) ≤ sizeL (pre ++ [.cif j m]) := by simp only [sizeL, List.map_append, List.sum_append, List.map_cons, List.map_nil, List.sum_cons, List.sum_nil]; omega
              simp only [sizeCl, csizes] at *; omega
            refine flat_ok (n := n) (a := true) (cs := [j, k]) (p := s) zz (by rw [cup_same]; rfl) ?_
            have s2 := s1.trans (sub_new (o := .lst [j.t.d, k.t.d]) hs0)
            have hc2 := cup_old (u := .lst [j.t.d, k.t.d]) hs0 hc1
            generalize cup C1 s (.lst [j.t.d, k.t.d]) = C2 at s2 hc2
            refine .inl ⟨q, _, -1, pre.length, rfl, rfl, hc2, ?_, ?_⟩
            · unfold L2.ixN; simp; omega
            have et : ((pre ++ [Cl.cif j m]).map clD).set pre.length (.tup [.str "if", (Cn.con true (flatC true [j, k])).t.d, .int m]) = (stepM (pre ++ [.cif j m]) (.cif k m)).map clD := by
              rw [stepM_snoc]
              simp only [joined, if_true]
              rw [List.map_append, List.set_append_right _ _ (by simp)]
              simp [clD, Cl.t, T.d, T.ds]
            rw [et]
            have fin := hK _ (sub_at hq s2) cup_same
            simp only [clD, Cl.t, T.d, T.ds] at fin ⊢
            exact fin
          · rw [if_neg (by simp [h3])]
            have := push C1 s1 hc1 (by rw [stepM_snoc]; simp only [joined, h3, if_false])
            simp only [clD, Cl.t, T.d, T.ds] at this
            exact this
        | _ => simp only [clW, ne_call_if, ne_from_if, ne_for_if] at h2
      · rw [if_neg (by simp [h2])]
        have := push C1 s1 hc1 (by rw [stepM_snoc]; cases b <;> first | rfl | (simp [clW] at h2))
        rw [ec'] at this
        exact this
    | _ => simp only [clW, ne_call_if, ne_from_if, ne_for_if] at h1
  · rw [if_neg (by simp [h1])]
    have := push C1 s1 hc1 (by rw [stepM_snoc]; cases b <;> cases c <;> first | rfl | (simp [clW] at h1))
    rw [ec'] at this
    exact this

theorem sizeL_cons (c : Cl) (cs : List Cl) : sizeL (c :: cs) = sizeCl c + sizeL cs := by simp [sizeL]
theorem sizeL_app (a b : List Cl) : sizeL (a ++ b) = sizeL a + sizeL b := by simp [sizeL]
theorem sizeL_one (c : Cl) : sizeL [c] = sizeCl c := by simp [sizeL]
theorem stepM_tame {acc : List Cl} {c : Cl} (h : ∀ a ∈ acc, TameCl a) (k : TameCl c) : (∀ a ∈ stepM acc c, TameCl a) ∧ sizeL (stepM acc c) ≤ sizeL acc + sizeCl c ∧ (stepM acc c).length ≤ acc.length + 1 := by
  rcases List.eq_nil_or_concat acc with e | ⟨pre, b, e⟩
  · subst e
    refine ⟨fun a ha => ?_, by simp [stepM, sizeL], by simp [stepM]⟩
    have : a = c := by simpa [stepM] using ha
    rw [this]; exact k
  · rw [List.concat_eq_append] at e
    subst e
    rw [stepM_snoc]
    cases j : joined b c with
    | none =>
      refine ⟨fun a ha => ?_, by rw [sizeL_app, sizeL_one]; exact Nat.le_refl _, by simp⟩
      rcases List.mem_append.mp ha with ha | ha
      · exact h a ha
      · rw [List.mem_singleton.mp ha]; exact k
    | some e =>
      obtain ⟨x, y, l, rfl, rfl, rfl⟩ := joined_some j
      refine ⟨fun a ha => ?_, ?_, by simp⟩
      · rcases List.mem_append.mp ha with ha | ha
        · exact h a (List.mem_append_left _ ha)
        · rw [List.mem_singleton.mp ha]
          exact tame_join (h (.cif x l) (by simp)) k
      · have := join_size (a := x) (b := y) (l := l)
        simp only [sizeL_app, sizeL_one] at *
        omega
theorem merge_loop {n : Nat} {E : Kx} {C0 : CH} {q l0 : Addr} {all : List D} {Dd : EndsC} {x0 x1 : Option D} (hq : C0 q = none) (h0 : C0 l0 = some (.lst all)) :
    ∀ (xs acc : List Cl) (y : Option D) (C : CH), Sub C0 C → C q = some (.lst (acc.map clD)) → (∀ a ∈ acc, TameCl a) → (∀ a ∈ xs, TameCl a) → acc.length + xs.length < 100000 → sizeL acc + sizeL xs ≤ 1000000 →
      (∀ y C', Sub C0 C' → C' q = some (.lst ((xs.foldl stepM acc).map clD)) → Dd.nx [x0, x1, some (.ref q), y] C') →
      forL (hT (.nm 3)) (rdSs (GG (n + 1)) (exN E) mergeB) (fun C => LsC C l0 all) Dd (xs.map clD) [x0, x1, some (.ref q), y] C
  | [], acc, y, C, hs, hc, ht, hx, hl, hz, hK => ⟨hs _ _ h0, hK _ C hs hc⟩
  | c :: xs, acc, y, C, hs, hc, ht, hx, hl, hz, hK => by
    refine ⟨hs _ _ h0, _, rfl, ?_⟩
    simp only [List.length_cons] at hl
    rw [sizeL_cons] at hz
    have hcx := hx c List.mem_cons_self
    obtain ⟨t1, t2, t3⟩ := stepM_tame ht hcx
    refine merge_turn (c := c) hq hs hc (by omega) ht hcx (by omega) fun C' s' c' => ?_
    exact merge_loop hq h0 xs (stepM acc c) _ C' s' c' t1 (fun a ha => hx a (List.mem_cons_of_mem _ ha)) (by omega) (by omega) hK
/-- the clauses can be settled and put together -/
structure NormIn (cs : List Cl) (h : Nat) : Prop where
  len : cs.length ≤ 1000
  ht : ∀ c ∈ cs, htCl h c
  tame : ∀ lv low, ∀ c ∈ (onceF cs lv low).1, TameCl c
  size : sizeL (onceF cs 1 0).1 ≤ 1000000 ∧ ∀ lv low, sizeL (onceF cs lv low).1 ≤ 1000000
theorem normal_clauses_ok {n h : Nat} {cs : List Cl} {lev : Int} {C : CH} {Q : Kv} {E : Kx} (N : NormIn cs h) (hq : ∀ C', Sub C C' → Q (clsT (normCls cs lev)).d C') : W (n + h + 4) i_normal_clauses [(clsT cs).d, .int lev] C Q E := by
  rw [W_normal_clauses]
  unfold b_normal_clauses
  rw [rdSs_cons]
  simp_arith [oLst]
  intro q hq0
  rw [rdSs_cons]
  simp_arith [sFor, iSeq, GG_call]
  refine once_settled_ok (n := n) (h := h) N.len N.ht fun l C1 hl0 s1 hl1 => ?_
  have hl1' : C1 l = some (.lst ((onceF cs 1 (low0 lev)).1.map clD)) := hl1
  have nq : l ≠ q := fun z => by rw [z, cup_same] at hl0; cases hl0
  refine ⟨_, .inr ⟨l, rfl, hl1', ?_⟩⟩
  let B : CH := fun b => if b = q then none else C1 b
  have bq : B q = none := if_pos rfl
  have sB : Sub B C1 := fun a o e => by
    by_cases z : a = q
    · rw [z, bq] at e; cases e
    · have : B a = C1 a := if_neg z
      rw [this] at e; exact e
  have hmB : B l = some (.lst ((onceF cs 1 (low0 lev)).1.map clD)) := by
    have : B l = C1 l := if_neg nq
    rw [this]; exact hl1'
  have sCB : Sub C B := fun a o e => by
    have z : a ≠ q := fun z => by rw [z, hq0] at e; cases e
    have : B a = C1 a := if_neg z
    rw [this]
    exact s1 _ _ (by rw [cup_ne z]; exact e)
  have hlen := onceF_len cs 1 (low0 lev)
  have := N.len
  refine merge_loop (n := n + h + 2) (acc := []) bq hmB _ _ _ sB (s1 _ _ cup_same) (fun _ z => nomatch z) (N.tame 1 _) (by simp; omega) (by have := N.size.2 1 (low0 lev); simp [sizeL] at *; omega) fun y C2 k1 k2 => ?_
  dsimp only
  rw [rdSs_cons]
  simp_arith [oTuple]
  refine ⟨_, k2, ?_⟩
  refine ⟨C2, Sub.refl, ?_⟩
  have e : (clsT (normCls cs lev)).d = .tup (((onceF cs 1 (low0 lev)).1.foldl stepM []).map clD) := by
    rw [clsT_d, fold_merge]; rfl
  have := hq C2 (sCB.trans k1)
  rw [e] at this
  exact this
/-- a form's normal form -/
def normFm (F : Fm) : Fm := { F with cls := normCls F.cls F.lev }
theorem normFm_dep (F : Fm) : (normFm F).dep = F.dep := (norm_end F.cls F.lev 1 []).1
theorem normFm_norm (F : Fm) : normFm (normFm F) = normFm F := by
  unfold normFm
  simp only [norm_norm]
theorem normFm_ok {F : Fm} (h : FmOk F) (k : ∀ c ∈ (normFm F).cls, okCl c) : FmOk (normFm F) := by
  obtain ⟨s, _⟩ := fitCls_str h.cls
  refine ⟨fitCls_of (norm_str s) k, ?_, ?_, ?_, h.lev0, ?_, h.oth⟩
  · show asksL (normCls F.cls F.lev) ≤ 400
    rw [norm_asks s]; exact h.asks
  · have := norm_len F.cls F.lev
    have := h.len
    show (normCls F.cls F.lev).length ≤ 400
    omega
  · rw [normFm_dep]
    have e : endV (normFm F).cls [] = endV F.cls [] := (norm_end F.cls F.lev 1 []).2
    rw [e]
    exact h.val
  · rw [normFm_dep]; exact h.lev1
theorem sett_size (c : Cn) : csize (sett c) ≤ csize c := settled_size true c
theorem onceF_size : ∀ (cs : List Cl) (lv low : Int), sizeL (onceF cs lv low).1 ≤ sizeL cs
  | [], _, _ => Nat.le_refl _
  | c :: cs, lv, low => by
    have ih := onceF_size cs (nextL lv c) low
    simp only [onceF, sizeL_cons]
    have : sizeCl (onceC lv (onceF cs (nextL lv c) low).2 c).1 ≤ sizeCl c := by
      cases c with
      | call v => exact Nat.le_refl _
      | cfor v o => exact Nat.le_refl _
      | cif k l => have := sett_size k; simp only [onceC, sizeCl]; omega
      | frm k =>
        have := sett_size k
        by_cases hl : (onceF cs (nextL lv (.frm k)) low).2 ≤ lv <;> simp only [onceC, hl, if_true, if_false, sizeCl] <;> omega
    omega
theorem tame_str {lv : Int} {vs : List T} {c : Cl} (h : fitCl lv vs c) : TameCl (onceC lv lv c).1 ∧ ∀ low, TameCl (onceC lv low c).1 := by
  have key : ∀ low, TameCl (onceC lv low c).1 := fun low => by
    cases c with
    | call v =>
      obtain ⟨a, b, _⟩ := h.small
      exact ⟨a, by show (Cl.call v).t.p.depth ≤ 290; omega⟩
    | cfor v o =>
      obtain ⟨a, b, _⟩ := h.small
      exact ⟨a, by show (Cl.cfor v o).t.p.depth ≤ 290; omega⟩
    | cif k l =>
      obtain ⟨f1, f2, f3⟩ := fit_settled true k lv _ h.1
      exact tame_of f1 (Nat.le_trans f3 h.2.1.ht)
    | frm k =>
      obtain ⟨f1, f2, f3⟩ := fit_settled true k lv _ h.1
      have q := tame_of f1 (Nat.le_trans f3 h.2.ht)
      simp only [onceC]
      split
      · exact q
      · exact q
  exact ⟨key lv, key⟩
theorem onceF_tame : ∀ {cs : List Cl} {lv low : Int} {vs : List T}, fitCls cs lv vs → ∀ c ∈ (onceF cs lv low).1, TameCl c
  | [], _, _, _, _, c, h => nomatch h
  | d :: cs, lv, low, vs, hf, c, h => by
    simp only [onceF] at h
    rcases List.mem_cons.mp h with e | h
    · rw [e]; exact (tame_str hf.1).2 _
    · exact onceF_tame hf.2 c h
theorem fit_ht : ∀ {cs : List Cl} {lv : Int} {vs : List T}, fitCls cs lv vs → (∀ c ∈ cs, htCl 100 c) ∧ sizeL cs ≤ 10001 * cs.length
  | [], _, _, _ => ⟨(fun _ h => nomatch h), by simp [sizeL]⟩
  | d :: cs, lv, vs, hf => by
    obtain ⟨h1, h2⟩ := fit_ht hf.2
    have hd : htCl 100 d ∧ sizeCl d ≤ 10001 := by
      cases d with
      | call v => exact ⟨trivial, by simp [sizeCl]⟩
      | cfor v o => exact ⟨trivial, by simp [sizeCl]⟩
      | cif k l => have := hf.1.2.1; exact ⟨⟨this.ht, by have := this.size; omega⟩, by have := this.size; simp only [sizeCl]; omega⟩
      | frm k => have := hf.1.2; exact ⟨⟨this.ht, by have := this.size; omega⟩, by have := this.size; simp only [sizeCl]; omega⟩
    refine ⟨fun c hc => ?_, ?_⟩
    · rcases List.mem_cons.mp hc with e | hc
      · rw [e]; exact hd.1
      · exact h1 c hc
    · rw [sizeL_cons, List.length_cons, Nat.mul_succ]; omega
/-- the sizes of a form's conditions, all together -/
def FmSize (F : Fm) : Prop := sizeL F.cls ≤ 900000
theorem FmOk.norm {F : Fm} (h : FmOk F) (z : FmSize F) : NormIn F.cls 100 := by
  have hl := h.len
  have key : ∀ lv low, sizeL (onceF F.cls lv low).1 ≤ 1000000 := fun lv low => by
    have := onceF_size F.cls lv low
    unfold FmSize at z; omega
  refine ⟨by omega, (fit_ht h.cls).1, fun lv low => ?_, key 1 0, key⟩
  have gen : ∀ {cs : List Cl} {lv lv' low : Int} {vs : List T}, fitCls cs lv vs → ∀ c ∈ (onceF cs lv' low).1, TameCl c := by
    intro cs
    induction cs with
    | nil => intro lv lv' low vs _ c h; cases h
    | cons d cs ih =>
      intro lv lv' low vs hf c h
      simp only [onceF] at h
      rcases List.mem_cons.mp h with e | h
      · rw [e]
        have q := (tame_str hf.1).2
        cases d with
        | call v => exact q 0
        | cfor v o => exact q 0
        | cif k l => exact q 0
        | frm k =>
          have q1 : TameC (sett k) := by
            have := q 0
            simp only [onceC] at this
            split at this <;> exact this
          simp only [onceC]
          split <;> exact q1
      · exact ih hf.2 c h
  exact gen h.cls
/-- attributes of a form -/
theorem fs_clauses {F : Fm} : F.fs.lookup ("clauses" : Str) = some (clsT F.cls).d := rfl
theorem fs_value {F : Fm} : F.fs.lookup ("value" : Str) = some F.val.t.d := rfl
theorem fs_level {F : Fm} : F.fs.lookup ("level" : Str) = some (.int F.lev) := rfl
theorem fs_other {F : Fm} : F.fs.lookup ("other" : Str) = some (othT F.oth).d := rfl
theorem fs_depth {F : Fm} : F.fs.lookup ("depth" : Str) = some (.int F.dep) := rfl
theorem at_form {f : Str} {F : Fm} {p : Addr} {C : CH} {v : D} {Q : Kv} (hp : C p = some (FmO F)) (hv : F.fs.lookup f = some v) (hq : Q v C) : ∃ p' c fs v', D.ref p = .ref p' ∧ C p' = some (.ins c fs) ∧ c ∈ [c_Form] ∧ fs.lookup f = some v' ∧ Q v' C :=
  ⟨p, c_Form, _, v, rfl, hp, by simp, hv, hq⟩
theorem Form_normal_ok {n : Nat} {F : Fm} {p : Addr} {C : CH} {Q : Kv} {E : Kx} (h : FmOk F) (z : FmSize F) (k : ∀ c ∈ (normFm F).cls, okCl c) (hp : C p = some (FmO F))
    (hq : ∀ q C', C q = none → Sub C C' → C' q = some (FmO (normFm F)) → Q (.ref q) C') : W (n + 106) i_Form_normal [.ref p] C Q E := by
  rw [W_Form_normal]
  unfold b_Form_normal
  simp_arith! [cMake, cAttr, GG_call]
  refine ⟨c_Form, _, hp, by simp, _, fs_clauses, c_Form, _, hp, by simp, _, fs_level, ?_⟩
  refine normal_clauses_ok (n := n + 1) (h := 100) (h.norm z) fun C1 s1 => ?_
  have hp1 := s1 _ _ hp
  refine ⟨c_Form, _, hp1, by simp, _, fs_value, c_Form, _, hp1, by simp, _, fs_level, c_Form, _, hp1, by simp, _, fs_other, fun q hq0 => ?_⟩
  have ok := normFm_ok h k
  refine init_ok (F := normFm F) (n := n + 90) ok (.inl rfl) cup_same ?_
  rw [cup_cup]
  refine ⟨rfl, _, Sub.refl, hq q _ ?_ (s1.trans (sub_new hq0)) cup_same⟩
  cases e : C q with
  | none => rfl
  | some u => rw [s1 _ _ e] at hq0; cases hq0

/-! parts, len, ==, kinds -/
def partsD (F : Fm) : D := .tup [(clsT F.cls).d, F.val.t.d, .int F.lev, (othT F.oth).d, .int F.dep]
theorem Form_parts_ok {n : Nat} {F : Fm} {p : Addr} {C : CH} {Q : Kv} {E : Kx} (hp : C p = some (FmO F)) (hq : Q (partsD F) C) : W (n + 1) i_Form_parts [.ref p] C Q E := by
  rw [W_Form_parts]
  unfold b_Form_parts
  simp_arith! [cAttr]
  refine ⟨c_Form, _, hp, by simp, _, fs_clauses, c_Form, _, hp, by simp, _, fs_value, c_Form, _, hp, by simp, _, fs_level, c_Form, _, hp, by simp, _, fs_other, c_Form, _, hp, by simp, _, fs_depth, ?_⟩
  exact ⟨C, Sub.refl, hq⟩
theorem Form_len_ok {n : Nat} {F : Fm} {p : Addr} {C : CH} {Q : Kv} {E : Kx} (hp : C p = some (FmO F)) (hq : Q (.int F.cls.length) C) : W (n + 1) i_Form___len__ [.ref p] C Q E := by
  rw [W_Form___len__]
  unfold b_Form___len__
  simp_arith! [cAttr]
  refine ⟨c_Form, _, hp, by simp, _, fs_clauses, ?_⟩
  rw [clsT_d]
  simp_arith! [List.length_map]
  exact ⟨C, Sub.refl, hq⟩
/-- the parts as a tree -/
def partsT (F : Fm) : T := .tup [clsT F.cls, F.val.t, .int F.lev, othT F.oth, .int F.dep]
theorem partsT_d (F : Fm) : (partsT F).d = partsD F := by
  simp only [partsT, T.d, T.ds, partsD]
theorem fitCls_deep : ∀ {cs : List Cl} {lv : Int} {vs : List T}, fitCls cs lv vs → ∀ t ∈ cs.map Cl.t, okT t = true ∧ t.p.depth ≤ 210
  | [], _, _, _, _, h => nomatch h
  | c :: cs, lv, vs, hf, t, h => by
    rcases List.mem_cons.mp h with e | h
    · rw [e]; obtain ⟨a, b, _⟩ := hf.1.small; exact ⟨a, b⟩
    · exact fitCls_deep hf.2 t h
theorem okTs_of : ∀ {ts : List T}, (∀ t ∈ ts, okT t = true) → okTs ts = true
  | [], _ => rfl
  | t :: ts, h => by
    simp only [okTs, h t List.mem_cons_self, okTs_of fun x hx => h x (List.mem_cons_of_mem _ hx), Bool.and_self]
theorem FmOk.parts {F : Fm} (h : FmOk F) : okT (partsT F) = true ∧ (partsT F).p.depth ≤ 350 := by
  have d := fitCls_deep h.cls
  have q := depths_le d
  have o := okTs_of fun t ht => (d t ht).1
  obtain ⟨v1, v2, _⟩ := h.val.ok
  have ho : okT (othT F.oth) = true ∧ (othT F.oth).p.depth = 0 := by
    cases e : F.oth with
    | none => exact ⟨rfl, rfl⟩
    | some z => exact ⟨(h.oth z e).2, rfl⟩
  refine ⟨?_, ?_⟩
  · show (okTs (F.cls.map Cl.t) && (okT F.val.t && (true && (okT (othT F.oth) && (true && true))))) = true
    rw [o, v1, ho.1]; rfl
  · simp only [partsT, clsT, T.p, T.pl, PyData.depth, PyData.depthAll]
    have := q.2
    omega
/-- one form == another one -/
theorem Form_eq_ok {n : Nat} {F G : Fm} {p q : Addr} {C : CH} {Q : Kv} {E : Kx} (hF : FmOk F) (hG : FmOk G) (hp : C p = some (FmO F)) (hq' : C q = some (FmO G)) (hq : Q (.bl (PyData.eqv (partsT F).p (partsT G).p)) C) : W (n + 2) i_Form___eq__ [.ref p, .ref q] C Q E := by
  rw [W_Form___eq__]
  unfold b_Form___eq__
  simp_arith! [cMeth, tyC_ins hq', GG_own, GG_call]
  refine ⟨_, hp, rfl, ?_⟩
  refine Form_parts_ok (n := n) hp ?_
  refine ⟨_, hq', rfl, ?_⟩
  refine Form_parts_ok (n := n) hq' ?_
  rw [← partsT_d, ← partsT_d]
  obtain ⟨a1, a2⟩ := hF.parts
  obtain ⟨b1, b2⟩ := hG.parts
  refine oEqN_T ?_ ?_ ⟨C, Sub.refl, hq⟩
  · unfold deepOk; rw [canLay_ok _ a1, decide_eq_true a2]; rfl
  · unfold deepOk; rw [canLay_ok _ b1, decide_eq_true b2]; rfl
/-! kinds -/
def isIf1 (l : Int) : Cl → Bool
  | .cif _ m => decide (m = l)
  | _ => false
def isOne : Em → Bool
  | .val (.item i) => decide (i = 1)
  | _ => false
def kindB (N : Fm) : List (Str × Bool) :=
  [("map", decide (N.lev = 1) && N.cls.all fun c => decide (clW c = ("call" : Str))),
   ("filter", decide (N.cls.length = 1) && ((N.cls.any (isIf1 1)) && (isOne N.val && decide (N.lev = 1)))),
   ("flat", N.cls.any fun c => decide (clW c = ("for" : Str))),
   ("drops", N.cls.any fun c => decide (clW c = ("from" : Str))),
   ("ends", decide (N.lev = 0) || N.cls.any (isIf1 0)),
   ("search", decide (N.lev = 0))]
def kindsF (N : Fm) : List Str := ((kindB N).filter (·.2)).map (·.1)
theorem snap_strs (C : CH) : ∀ zs : List Str, SnapL C (zs.map D.str) (zs.map PyData.str)
  | [] => .nil
  | z :: zs => .cons (.str z) (snap_strs C zs)
theorem deep_strs : ∀ {zs : List Str}, (∀ z ∈ zs, PyData.strOk z = true) → PyData.canLayAll0 (zs.map PyData.str) = true ∧ PyData.depthAll (zs.map PyData.str) = 0
  | [], _ => ⟨rfl, rfl⟩
  | z :: zs, h => by
    obtain ⟨h1, h2⟩ := deep_strs (zs := zs) fun x hx => h x (List.mem_cons_of_mem _ hx)
    refine ⟨?_, ?_⟩
    · simp only [List.map_cons, PyData.canLayAll0, Bool.and_eq_true]
      exact ⟨h z List.mem_cons_self, h1⟩
    · simp only [List.map_cons, PyData.depthAll, h2]; rfl
theorem eqv_strs : ∀ (xs ys : List Str), PyData.eqvAll (xs.map PyData.str) (ys.map PyData.str) = decide (xs = ys)
  | [], [] => by simp [PyData.eqvAll]
  | [], _ :: _ => by simp [PyData.eqvAll]
  | _ :: _, [] => by simp [PyData.eqvAll]
  | x :: xs, y :: ys => by
    simp only [List.map_cons, PyData.eqvAll, eqv_strs xs ys, PyData.eqv]
    by_cases h : x = y
    · subst h; by_cases h2 : xs = ys <;> simp [h2]
    · simp [h]
/-- two lists of texts -/
theorem eq_strs {f : Bool → Bool} {C : CH} {p q : Addr} {xs ys : List Str} {Q : Kv} (hp : C p = some (.lst (xs.map D.str))) (hq : C q = some (.lst (ys.map D.str))) (ox : ∀ z ∈ xs, PyData.strOk z = true) (oy : ∀ z ∈ ys, PyData.strOk z = true) (h : Q (.bl (f (decide (xs = ys)))) C) : oEqN f (.ref p) (.ref q) C Q := by
  obtain ⟨a1, a2⟩ := deep_strs ox
  obtain ⟨b1, b2⟩ := deep_strs oy
  refine ⟨_, _, .lst hp (snap_strs C xs), .lst hq (snap_strs C ys), ?_, ?_, ?_⟩
  · unfold deepOk
    have : (PyData.list (xs.map PyData.str)).depth ≤ 350 := by show PyData.depthAll _ + 1 ≤ 350; omega
    rw [decide_eq_true this, Bool.and_true]; exact a1
  · unfold deepOk
    have : (PyData.list (ys.map PyData.str)).depth ≤ 350 := by show PyData.depthAll _ + 1 ≤ 350; omega
    rw [decide_eq_true this, Bool.and_true]; exact b1
  · have e : PyData.eqv (.list (xs.map PyData.str)) (.list (ys.map PyData.str)) = decide (xs = ys) := by
      show PyData.eqvAll _ _ = _
      exact eqv_strs xs ys
    rw [e]; exact h
theorem flat_rep_strs (z : Str) (n : Nat) : (List.replicate n [D.str z]).flatten = (List.replicate n z).map D.str := by
  induction n with
  | zero => rfl
  | succ n ih => simp only [List.replicate_succ, List.flatten_cons, ih, List.map_cons]; rfl
theorem all_call (cs : List Cl) : decide (cs.map clW = List.replicate (cs.map clW).length ("call" : Str)) = cs.all fun c => decide (clW c = ("call" : Str)) := by
  induction cs with
  | nil => rfl
  | cons c cs ih =>
    simp only [List.map_cons, List.length_cons, List.replicate_succ, List.all_cons, List.cons.injEq, Bool.decide_and]
    rw [ih]
theorem in_strs {f : Bool → Bool} {C : CH} {p : Addr} {z : Str} {xs : List Str} {Q : Kv} (hp : C p = some (.lst (xs.map D.str))) (h : Q (.bl (f (xs.any fun x => decide (x = z)))) C) : oInF f (.str z) (.ref p) C Q := by
  refine ⟨_, SqC_ref.mpr hp, rfl, ?_, ?_⟩
  · rw [List.all_map]; exact List.all_eq_true.mpr fun _ _ => rfl
  · have e : L2.inV (toV (.str z)) ((xs.map D.str).map toV) = xs.any fun x => decide (x = z) := by
      unfold L2.inV
      rw [List.any_map, List.any_map]
      refine congrArg (fun g => List.any xs g) (funext fun x => ?_)
      show L2.eqV (.str x) (.str z) = _
      by_cases hx : x = z
      · subst hx; simp [L2.eqV]
      · simp [L2.eqV, hx]
    rw [e]; exact h
theorem if_test {c : Cl} {l : Int} {C : CH} {Q : Bool → CH → Prop} {f : D → Prop} : True := trivial
theorem isOne_eqv (e : Em) : PyData.eqv e.t.p (.int 1) = isOne e := by
  cases e with
  | word z => rfl
  | val v =>
    cases v with
    | item i =>
      show (i == 1) = decide (i = 1)
      by_cases h : i = 1 <;> simp [h]
    | app1 z a => rfl
    | app2 z a b => rfl
theorem so_map : PyData.strOk (Str.ofString "map") = true := by decide +kernel
/-- an expression's value, whatever is made meanwhile (S: what is known of the heap) -/
def EvB (S : CH → Prop) (e : CTE) (σ : Env3) (v : D) : Prop := ∀ C Q, S C → (∀ C', S C' → Q v C') → e σ C Q
theorem EvB.and {S : CH → Prop} {a b : CTE} {σ : Env3} {x y : Bool} (ha : EvB S a σ (.bl x)) (hb : x = true → EvB S b σ (.bl y)) : EvB S (cAndV a b) σ (.bl (x && y)) := by
  intro C Q hs hq
  refine ha C _ hs fun C1 h1 => ⟨x, rfl, ?_⟩
  cases x with
  | true => rw [if_pos rfl]; exact hb rfl C1 Q h1 hq
  | false => exact hq C1 h1
theorem EvB.or {S : CH → Prop} {a b : CTE} {σ : Env3} {x y : Bool} (ha : EvB S a σ (.bl x)) (hb : x = false → EvB S b σ (.bl y)) : EvB S (cOrV a b) σ (.bl (x || y)) := by
  intro C Q hs hq
  refine ha C _ hs fun C1 h1 => ⟨x, rfl, ?_⟩
  cases x with
  | true => rw [if_pos rfl]; exact hq C1 h1
  | false => exact hb rfl C1 Q h1 hq
section
variable {S : CH → Prop} {N : Fm} {m : Addr} {σ : Env3} {G : G3} {ex : Kxs}
/-- normal.level == l -/
theorem ev_level (hm : ∀ C, S C → C m = some (FmO N)) (h1 : σ[1]? = some (some (.ref m))) (l : Int) : EvB S (rdE G ex (.cmp .eq (.attr [c_Form] "level" (.var 1)) (.cst (.int l)))) σ (.bl (decide (N.lev = l))) := by
  intro C Q hs hq
  refine ⟨.ref m, h1, m, c_Form, _, _, rfl, hm C hs, by simp, fs_level, ?_⟩
  show oEqN id (.int N.lev) (.int l) C Q
  rw [oEqN_int]
  exact hq C hs
theorem ev_value (hN : okT N.val.t = true ∧ N.val.t.p.depth ≤ 4) (hm : ∀ C, S C → C m = some (FmO N)) (h1 : σ[1]? = some (some (.ref m))) : EvB S (rdE G ex (.cmp .eq (.attr [c_Form] "value" (.var 1)) (.cst (.int 1)))) σ (.bl (isOne N.val)) := by
  intro C Q hs hq
  refine ⟨.ref m, h1, m, c_Form, _, _, rfl, hm C hs, by simp, fs_value, ?_⟩
  refine oEqN_T (x := N.val.t) (y := .int 1) ?_ (by decide) ?_
  · have : N.val.t.p.depth ≤ 350 := by have := hN.2; omega
    unfold deepOk; rw [canLay_ok _ hN.1, decide_eq_true this]; rfl
  · rw [show (T.int 1).p = .int 1 from rfl, isOne_eqv]
    exact hq C hs
end
/-- fits.append((word, e)) -/
theorem append_pair {G : G3} {ex : Kxs} {e : CE} {w : Str} {q : Addr} {σ : Env3} {B C : CH} {Dd : EndsC} {acc : List D} {v : D} (hB : B q = none) (hs : Sub B C) (hc : C q = some (.lst acc)) (h5 : σ[5]? = some (some (.ref q))) (hl : acc.length < 1000)
    (he : EvB (fun C => Sub B C ∧ C q = some (.lst acc)) (rdE G ex e) σ v) (hK : ∀ C', Sub B C' → C' q = some (.lst (acc ++ [.tup [.str w, v]])) → Dd.nx σ C') : rdS G ex (.expr (.mt .append (.var 5) [.tup [.cst (.str w), e]])) Dd σ C := by
  have hsl : 1000000 ≤ sizeLine := by decide
  refine ⟨.ref q, h5, isLst_of hc, ?_⟩
  refine he C _ ⟨hs, hc⟩ fun C1 ⟨s1, c1⟩ => ⟨by show 2 ≤ sizeLine; omega, ?_⟩
  exact ⟨q, _, _, rfl, rfl, c1, by omega, hK _ (sub_at hB s1) cup_same⟩
theorem pairs_filter (bs : List (Str × Bool)) : ((bs.map fun b => D.tup [.str b.1, .bl b.2])) = bs.map fun b => D.tup [.str b.1, .bl b.2] := rfl

/-! kinds, walked -/
theorem kinds_ok {n : Nat} {F : Fm} {p : Addr} {C : CH} {Q : Kv} {E : Kx} (h : FmOk F) (z : FmSize F) (k : ∀ c ∈ (normFm F).cls, okCl c) (hp : C p = some (FmO F))
    (hq : ∀ C', Sub C C' → Q (.tup ((kindsF (normFm F)).map D.str)) C') : W (n + 107) i_kinds [.ref p] C Q E := by
  rw [W_kinds]
  unfold b_kinds
  have ok := normFm_ok h k
  generalize hN : normFm F = N at ok hq
  have hlen := ok.len
  have hsl : 1000000 ≤ sizeLine := by decide
  rw [rdSs_cons]
  simp_arith [cMeth, GG_call]
  refine ⟨_, hp, rfl, ?_⟩
  refine Form_normal_ok (n := n) h z k hp fun m C1 hm0 s1 hm => ?_
  rw [hN] at hm
  try dsimp only
  rw [rdSs_cons]
  -- the words
  simp_arith [cLc, iSeq, cAttr]
  refine ⟨c_Form, _, hm, by simp, _, fs_clauses, ?_⟩
  refine ⟨N.cls.map clD, .inl ⟨.inl (clsT_d _), ?_⟩⟩
  refine lcL_of clD (fun c => .str (clW c)) trivial N.cls (fun c _ => ⟨_, rfl, fun Q' hQ => ?_⟩) (by omega) ?_
  · obtain ⟨x, r, e⟩ := cl_at c
    have e' : clD c = .tup (.str (clW c) :: x :: r) := e
    simp_arith! [wipe3, e']
    exact hQ
  intro pw hpw
  have s2 := s1.trans (sub_new (o := .lst (N.cls.map fun c => .str (clW c))) hpw)
  have hm2 := cup_old (u := .lst (N.cls.map fun c => .str (clW c))) hpw hm
  have hw2 : cup C1 pw (.lst (N.cls.map fun c => .str (clW c))) pw = some (.lst ((N.cls.map clW).map D.str)) := by rw [cup_same, List.map_map]; rfl
  generalize cup C1 pw (.lst (N.cls.map fun c => .str (clW c))) = C2 at s2 hm2 hw2
  try dsimp only
  rw [rdSs_cons]
  -- the filters
  simp_arith [cLc, iSeq, cAttr]
  refine ⟨c_Form, _, hm2, by simp, _, fs_clauses, ?_⟩
  refine ⟨N.cls.map clD, .inl ⟨.inl (clsT_d _), ?_⟩⟩
  refine lcL_if clD clD (isIf1 1) trivial N.cls (fun c _ => ⟨_, rfl, fun Q' hQ => ?_, fun Q' hQ => ?_⟩) (by omega) ?_
  · obtain ⟨x, r, e⟩ := cl_at c
    have e' : clD c = .tup (.str (clW c) :: x :: r) := e
    cases c with
    | cif k l => simp_arith! [wipe3, clD, Cl.t, T.d, T.ds, oEqN_strI so_if so_if, decide_true]; exact hQ
    | call v => simp_arith! [wipe3, clD, Cl.t, T.d, T.ds, oEqN_strI so_call so_if, ne_call_if, decide_false]; exact hQ
    | frm k => simp_arith! [wipe3, clD, Cl.t, T.d, T.ds, oEqN_strI so_from so_if, ne_from_if, decide_false]; exact hQ
    | cfor v o => simp_arith! [wipe3, clD, Cl.t, T.d, T.ds, oEqN_strI so_for so_if, ne_for_if, decide_false]; exact hQ
  · simp_arith! [wipe3]; exact hQ
  intro pf hpf
  have s3 := s2.trans (sub_new (o := .lst ((N.cls.filter (isIf1 1)).map clD)) hpf)
  have hm3 := cup_old (u := .lst ((N.cls.filter (isIf1 1)).map clD)) hpf hm2
  have hw3 := cup_old (u := .lst ((N.cls.filter (isIf1 1)).map clD)) hpf hw2
  have hf3 : cup C2 pf (.lst ((N.cls.filter (isIf1 1)).map clD)) pf = some (.lst ((N.cls.filter (isIf1 1)).map clD)) := cup_same
  generalize cup C2 pf (.lst ((N.cls.filter (isIf1 1)).map clD)) = C3 at s3 hm3 hw3 hf3
  try dsimp only
  rw [rdSs_cons]
  -- ends
  have ends : EvB (fun C => Sub C3 C) (rdE (GG (n + 106)) (exN E) (.or (.cmp .eq (.attr [c_Form] "level" (.var 1)) (.cst (.int 0))) (.bi .any [(.lc (.and (.cmp .eq (.idx (.var 6) (.cst (.int 0))) (.cst (.str "if"))) (.cmp .eq (.idx (.var 6) (.cst (.int 2))) (.cst (.int 0)))) (.nm 6) [6] .seq [(.attr [c_Form] "clauses" (.var 1))] [])])))
      [some (.ref p), some (.ref m), some (.ref pw), some (.ref pf), none, none, none, none, none] (.bl (decide (N.lev = 0) || N.cls.any (isIf1 0))) := by
    refine EvB.or (ev_level (fun C h => h _ _ hm3) rfl 0) fun _ C4 Q' s4 hq' => ?_
    have hm4 := s4 _ _ hm3
    simp_arith! [cLc, iSeq, cAttr]
    refine ⟨c_Form, _, hm4, by simp, _, fs_clauses, ?_⟩
    refine ⟨N.cls.map clD, .inl ⟨.inl (clsT_d _), ?_⟩⟩
    refine lcL_of clD (fun c => .bl (isIf1 0 c)) trivial N.cls (fun c _ => ⟨_, rfl, fun Q'' hQ => ?_⟩) (by omega) ?_
    · cases c with
      | cif k l => simp_arith! [wipe3, clD, Cl.t, T.d, T.ds, oEqN_strI so_if so_if, decide_true]; exact hQ
      | call v => simp_arith! [wipe3, clD, Cl.t, T.d, T.ds, oEqN_strI so_call so_if, ne_call_if, decide_false]; exact hQ
      | frm k => simp_arith! [wipe3, clD, Cl.t, T.d, T.ds, oEqN_strI so_from so_if, ne_from_if, decide_false]; exact hQ
      | cfor v o => simp_arith! [wipe3, clD, Cl.t, T.d, T.ds, oEqN_strI so_for so_if, ne_for_if, decide_false]; exact hQ
    · intro x hx
      refine oAll_new (bs := N.cls.map (isIf1 0)) (by rw [List.map_map]; rfl) ?_
      have : (N.cls.map (isIf1 0)).any id = N.cls.any (isIf1 0) := by rw [List.any_map]; rfl
      rw [this]
      exact hq' _ (s4.trans (sub_new hx))
  refine ends C3 _ Sub.refl fun C4 s4 => ⟨_, rfl, ?_⟩
  show rdSs (GG (n + 106)) (exN E) (b_kinds.drop 4) (endN Q) [some (.ref p), some (.ref m), some (.ref pw), some (.ref pf), some (.bl (decide (N.lev = 0) || N.cls.any (isIf1 0))), none, none, none, none] C4
  simp only [b_kinds, List.drop]
  rw [rdSs_cons]
  have s5 := s3.trans s4
  have hm5 := s4 _ _ hm3
  have hw5 := s4 _ _ hw3
  have hf5 := s4 _ _ hf3
  have ow : ∀ z ∈ N.cls.map clW, PyData.strOk z = true := fun z hz => by
    obtain ⟨c, _, rfl⟩ := List.mem_map.mp hz
    exact so_clW c
  -- the first pair
  have e1 : EvB (fun C => Sub C4 C) (rdE (GG (n + 106)) (exN E) (.and (.cmp .eq (.attr [c_Form] "level" (.var 1)) (.cst (.int 1))) (.cmp .eq (.var 2) (.bin .mul (.lst [(.cst (.str "call"))]) (.bi .len [(.var 2)])))))
      [some (.ref p), some (.ref m), some (.ref pw), some (.ref pf), some (.bl (decide (N.lev = 0) || N.cls.any (isIf1 0))), none, none, none, none] (.bl (decide (N.lev = 1) && N.cls.all fun c => decide (clW c = ("call" : Str)))) := by
    refine EvB.and (ev_level (fun C h => h _ _ hm5) rfl 1) fun _ C5 Q' s6 hq' => ?_
    have hw6 := s6 _ _ hw5
    refine ⟨_, rfl, ?_⟩
    refine ⟨by show 1 ≤ sizeLine; omega, fun l hl => ?_⟩
    have hw7 := cup_old (u := .lst [.str "call"]) hl hw6
    refine ⟨_, rfl, ?_⟩
    simp_arith! [oMulA_lst]
    refine ⟨_, hw7, ?_⟩
    simp only [List.length_map]
    have lb : ((N.cls.length : Nat) : Int).toNat = N.cls.length := by omega
    refine ⟨by omega, by omega, by rw [lb]; simp; omega, fun r hr => ?_⟩
    rw [lb, flat_rep_strs]
    have hw8 := cup_old (u := .lst ((List.replicate N.cls.length (Str.ofString "call")).map D.str)) hr hw7
    refine eq_strs hw8 cup_same ow (fun z hz => by rw [(List.mem_replicate.mp hz).2]; exact so_call) ?_
    have ec := all_call N.cls
    rw [List.length_map] at ec
    show Q' (.bl (decide (N.cls.map clW = List.replicate N.cls.length (Str.ofString "call")))) _
    rw [show (Str.ofString "call") = ("call" : Str) from rfl, ec]
    exact hq' _ ((s6.trans (sub_new hl)).trans (sub_new hr))
  refine e1 C4 _ Sub.refl fun C5 s6 => ?_
  refine ⟨by show 2 ≤ sizeLine; omega, ?_⟩
  refine ⟨by show 1 ≤ sizeLine; omega, fun q hq5 => ⟨_, rfl, ?_⟩⟩
  have s7 := s5.trans s6
  have hm7 := s6 _ _ hm5
  have hw7 := s6 _ _ hw5
  have hf7 := s6 _ _ hf5
  have hq7 := cup_same (C := C5) (a := q) (o := .lst [.tup [.str "map", .bl (decide (N.lev = 1) && N.cls.all fun c => decide (clW c = ("call" : Str)))]])
  have sB7 := sub_new (C := C5) (o := .lst [.tup [.str "map", .bl (decide (N.lev = 1) && N.cls.all fun c => decide (clW c = ("call" : Str)))]]) hq5
  simp only [List.set_cons_succ, List.set_cons_zero]
  rw [rdSs_cons]
  refine append_pair hq5 sB7 hq7 rfl (by simp) (v := .bl (decide (N.cls.length = 1) && ((N.cls.any (isIf1 1)) && (isOne N.val && decide (N.lev = 1))))) ?_ fun C8 s8 hq8 => ?_
  · refine EvB.and ?_ fun _ => EvB.and ?_ fun _ => EvB.and (ev_value ⟨ok.val.ok.1, ok.val.ok.2.1⟩ (fun C h => h.1 _ _ hm7) rfl) fun _ => ev_level (fun C h => h.1 _ _ hm7) rfl 1
    · intro C Q' hs hq'
      refine ⟨.ref m, rfl, m, _, rfl, hs.1 _ _ hm7, ?_⟩
      refine Form_len_ok (n := n + 104) (hs.1 _ _ hm7) ⟨_, rfl, by omega, by omega, ?_⟩
      show oEqN id (.int N.cls.length) (.int 1) C Q'
      rw [oEqN_int]
      have : decide (((N.cls.length : Nat) : Int) = 1) = decide (N.cls.length = 1) := by
        by_cases h : N.cls.length = 1
        · rw [decide_eq_true h, decide_eq_true (by omega)]
        · rw [decide_eq_false h, decide_eq_false (by omega)]
      show Q' (.bl (decide (((N.cls.length : Nat) : Int) = 1))) C
      rw [this]
      exact hq' C hs
    · intro C Q' hs hq'
      refine ⟨.ref pf, rfl, ?_⟩
      refine ⟨by show 0 ≤ sizeLine; omega, fun l hl => ?_⟩
      have hfl := cup_old (u := .lst []) hl (hs.1 _ _ hf7)
      have ef : (N.cls.filter (isIf1 1)).map clD = T.ds ((N.cls.filter (isIf1 1)).map Cl.t) := by rw [T.ds_map, List.map_map]; rfl
      rw [ef] at hfl
      refine ts_ne (fun t ht => ?_) hfl cup_same ?_
      · obtain ⟨c, hc, rfl⟩ := List.mem_map.mp ht
        obtain ⟨a, b⟩ := fitCls_deep ok.cls c.t (List.mem_map.mpr ⟨c, (List.mem_filter.mp hc).1, rfl⟩)
        exact ⟨a, by omega⟩
      · have e : (!((N.cls.filter (isIf1 1)).map Cl.t).isEmpty) = N.cls.any (isIf1 1) := by
          induction N.cls with
          | nil => rfl
          | cons c cs ih =>
            rw [List.filter_cons, List.any_cons]
            cases h : isIf1 1 c with
            | true => rw [if_pos rfl]; rfl
            | false => rw [if_neg (by decide), Bool.false_or]; exact ih
        rw [e]
        refine hq' _ ⟨hs.1.trans (sub_new hl), ?_⟩
        exact cup_old hl hs.2
  dsimp only
  rw [rdSs_cons]
  refine append_pair hq5 s8 hq8 rfl (by simp) (v := .bl (N.cls.any fun c => decide (clW c = ("for" : Str)))) ?_ fun C9 s9 hq9 => ?_
  · intro C Q' hs hq'
    refine ⟨.ref pw, rfl, in_strs (hs.1 _ _ hw7) ?_⟩
    have : (N.cls.map clW).any (fun x => decide (x = Str.ofString "for")) = N.cls.any fun c => decide (clW c = ("for" : Str)) := by rw [List.any_map]; rfl
    show Q' (.bl ((N.cls.map clW).any (fun x => decide (x = Str.ofString "for")))) C
    rw [this]
    exact hq' C hs
  dsimp only
  rw [rdSs_cons]
  refine append_pair hq5 s9 hq9 rfl (by simp) (v := .bl (N.cls.any fun c => decide (clW c = ("from" : Str)))) ?_ fun C10 s10 hq10 => ?_
  · intro C Q' hs hq'
    refine ⟨.ref pw, rfl, in_strs (hs.1 _ _ hw7) ?_⟩
    have : (N.cls.map clW).any (fun x => decide (x = Str.ofString "from")) = N.cls.any fun c => decide (clW c = ("from" : Str)) := by rw [List.any_map]; rfl
    show Q' (.bl ((N.cls.map clW).any (fun x => decide (x = Str.ofString "from")))) C
    rw [this]
    exact hq' C hs
  dsimp only
  rw [rdSs_cons]
  refine append_pair hq5 s10 hq10 rfl (by simp) (v := .bl (decide (N.lev = 0) || N.cls.any (isIf1 0))) (fun C Q' hs hq' => ⟨_, rfl, hq' C hs⟩) fun C11 s11 hq11 => ?_
  dsimp only
  rw [rdSs_cons]
  refine append_pair hq5 s11 hq11 rfl (by simp) (v := .bl (decide (N.lev = 0))) (ev_level (fun C h => h.1 _ _ hm7) rfl 0) fun C12 s12 hq12 => ?_
  dsimp only
  rw [rdSs_cons]
  have e12 : C12 q = some (.lst ((kindB N).map fun b => D.tup [.str b.1, .bl b.2])) := hq12
  simp_arith [cLc, iSeq, oTuple]
  refine ⟨_, e12, ?_⟩
  refine lcL_if (fun b : Str × Bool => D.tup [.str b.1, .bl b.2]) (fun b : Str × Bool => .str b.1) (fun b : Str × Bool => b.2) (G := fun C => C q = some (.lst ((kindB N).map fun b => D.tup [.str b.1, .bl b.2]))) (C := C12) e12 (kindB N) (fun b _ => ⟨_, rfl, fun Q' hQ => ?_, fun Q' hQ => ?_⟩) (by show 6 ≤ sizeLine; omega) ?_
  · simp_arith! [wipe3, setAll]
    exact hQ
  · simp_arith! [wipe3, setAll]
    exact hQ
  · intro l hl
    refine ⟨C12, sub_new hl, ?_⟩
    have := hq C12 (s7.trans s12)
    unfold kindsF at this
    rw [List.map_map] at this
    exact this

/-! joining: clauses -/
theorem ne_if_call : (Str.ofString "if" = Str.ofString "call") = False := by simp; decide
theorem ne_from_call : (Str.ofString "from" = Str.ofString "call") = False := by simp; decide
theorem ne_for_call : (Str.ofString "for" = Str.ofString "call") = False := by simp; decide
theorem ne_if_from : (Str.ofString "if" = Str.ofString "from") = False := by simp; decide
def lIn (first k l : Int) : Int := if l = 0 then 0 else if l = 1 then first else l + k - 1
theorem level_in_ok {n : Nat} {l first k : Int} {C : CH} {Q : Kv} {E : Kx} (hq : Q (.int (lIn first k l)) C) : W (n + 1) i_level_in [.int l, .int first, .int k] C Q E := by
  rw [W_level_in]
  unfold b_level_in
  unfold lIn at hq
  by_cases h0 : l = 0
  · subst h0
    simp_arith! [decide_true]
    exact ⟨C, Sub.refl, hq⟩
  · rw [if_neg h0] at hq
    by_cases h1 : l = 1
    · subst h1
      simp_arith! [h0, decide_true, decide_false]
      exact ⟨C, Sub.refl, hq⟩
    · rw [if_neg h1] at hq
      simp_arith! [h0, h1, decide_false]
      exact ⟨C, Sub.refl, hq⟩
def emIn (w : Vv) (k : Int) : Em → Em
  | .val v => .val (vIn w k v)
  | .word z => .word z
def emH (r : Nat) : Em → Prop
  | .val v => v.h ≤ r
  | .word _ => True
theorem emitted_in_ok {n r : Nat} {o : Option Em} {w : Vv} {k : Int} {C : CH} {Q : Kv} {E : Kx} (h : ∀ e, o = some e → emH r e) (hq : Q (oT (o.map (emIn w k))).d C) : W (n + r + 2) i_emitted_in [(oT o).d, w.t.d, .int k] C Q E := by
  rw [W_emitted_in]
  unfold b_emitted_in
  cases o with
  | none => simp_arith! [oT, T.d]; exact ⟨C, Sub.refl, hq⟩
  | some e =>
    cases e with
    | word z => simp_arith! [oT, Em.t, T.d, GG_kit]; exact ⟨C, Sub.refl, hq⟩
    | val v =>
      have hv : v.h ≤ r := h _ rfl
      have key := value_in_ok r n v w k C (fun d C' => ∃ C1, Sub C1 C' ∧ Q d C1) (fun x C' => ∃ C1, Sub C1 C' ∧ E x C1) hv ⟨C, Sub.refl, hq⟩
      cases v with
      | item i => simp_arith! [oT, Em.t, Vv.t, T.d, GG_kit, GG_call]; exact key
      | app1 z a => simp_arith! [oT, Em.t, Vv.t, T.d, T.ds, GG_kit, GG_call]; exact key
      | app2 z a b => simp_arith! [oT, Em.t, Vv.t, T.d, T.ds, GG_kit, GG_call]; exact key
def clIn (w : Vv) (first k : Int) : Cl → Cl
  | .call v => .call (vIn w k v)
  | .cif c l => .cif (cIn w.t k c) (lIn first k l)
  | .frm c => .frm (cIn w.t k c)
  | .cfor v o => .cfor (vIn w k v) (o.map (emIn w k))
/-- a clause whose terms are terms -/
def clV (r : Nat) : Cl → Prop
  | .call v => v.h ≤ r
  | .cif c _ => tmsC r c ∧ ht c ≤ 100 ∧ csize c ≤ 10000
  | .frm c => tmsC r c ∧ ht c ≤ 100 ∧ csize c ≤ 10000
  | .cfor v o => v.h ≤ r ∧ ∀ e, o = some e → emH r e
theorem fitCl.clv {lv : Int} {vs : List T} {c : Cl} (h : fitCl lv vs c) : clV 4 c := by
  cases c with
  | call v => exact h.1.h
  | cif c l => exact ⟨fitC.tms h.1, h.2.1.ht, h.2.1.size⟩
  | frm c => exact ⟨fitC.tms h.1, h.2.ht, h.2.size⟩
  | cfor v o =>
    refine ⟨h.1.1.h, fun e he => ?_⟩
    have := h.2.2 e he
    cases e with
    | val v => exact this.1.h
    | word z => trivial
theorem clause_in_ok {n r : Nat} {c : Cl} {w : Vv} {first k : Int} {C : CH} {Q : Kv} {E : Kx} (h : clV r c) (hq : Q (clD (clIn w first k c)) C) : W (n + r + 103) i_clause_in [clD c, w.t.d, .int first, .int k] C Q E := by
  have hsl : 1000000 ≤ sizeLine := by decide
  rw [W_clause_in]
  unfold b_clause_in
  cases c with
  | call v =>
    simp_arith! [clD, Cl.t, T.d, T.ds, oEqN_strI so_call so_call, decide_true, GG_call]
    refine tm_at (by omega) (fun m => value_in_ok r m v w k C _ _ h ?_)
    exact ⟨C, Sub.refl, hq⟩
  | cif c l =>
    simp_arith! [clD, Cl.t, T.d, T.ds, oEqN_strI so_if so_call, oEqN_strI so_if so_if, ne_if_call, decide_false, decide_true, GG_call]
    refine condition_in_ok r 100 n c w k C _ _ h.2.1 (by have := h.2.2; omega) h.1 ?_
    refine level_in_ok (n := n + r + 101) ?_
    exact ⟨C, Sub.refl, hq⟩
  | frm c =>
    simp_arith! [clD, Cl.t, T.d, T.ds, oEqN_strI so_from so_call, oEqN_strI so_from so_if, oEqN_strI so_from so_from, ne_from_call, ne_from_if, decide_false, decide_true, GG_call]
    refine condition_in_ok r 100 n c w k C _ _ h.2.1 (by have := h.2.2; omega) h.1 ?_
    exact ⟨C, Sub.refl, hq⟩
  | cfor v o =>
    simp_arith! [clD, Cl.t, T.d, T.ds, oEqN_strI so_for so_call, oEqN_strI so_for so_if, oEqN_strI so_for so_from, ne_for_call, ne_for_if, ne_for_from, decide_false, GG_call]
    refine tm_at (by omega) (fun m => value_in_ok r m v w k C _ _ h.1 ?_)
    refine tm_at (r := r + 1) (by omega) (fun m => emitted_in_ok (n := m) h.2 ?_)
    exact ⟨C, Sub.refl, hq⟩
def emTall : Option Em → Int
  | some (.val v) => v.h
  | _ => 0
def clTall : Cl → Int
  | .call v => v.h
  | .cif c _ => tallC c
  | .frm c => tallC c
  | .cfor v o => if emTall o > v.h then emTall o else v.h
theorem tall_em {n r : Nat} {o : Option Em} {C : CH} {Q : Kv} {E : Kx} (h : ∀ e, o = some e → emH r e) (hq : Q (.int (emTall o)) C) : W (n + r + 1) i_tallness [(oT o).d] C Q E := by
  cases o with
  | none => rw [W_tallness]; unfold b_tallness; simp_arith! [oT, T.d, GG_kit]; exact ⟨C, Sub.refl, hq⟩
  | some e =>
    cases e with
    | word z => rw [W_tallness]; unfold b_tallness; simp_arith! [oT, Em.t, T.d, GG_kit]; exact ⟨C, Sub.refl, hq⟩
    | val v => exact tallness_ok r n v C Q E (h _ rfl) hq
theorem height_of_ok {n r : Nat} {c : Cl} {C : CH} {Q : Kv} {E : Kx} (h : clV r c) (hq : Q (.int (clTall c)) C) : W (n + r + 103) i_height_of [clD c] C Q E := by
  have hsl : 1000000 ≤ sizeLine := by decide
  rw [W_height_of]
  unfold b_height_of
  cases c with
  | call v =>
    simp_arith! [clD, Cl.t, T.d, T.ds, oEqN_strI so_call so_call, decide_true, GG_call]
    refine tm_at (by omega) (fun m => tallness_ok r m v C _ _ h ?_)
    exact ⟨C, Sub.refl, hq⟩
  | cif c l =>
    simp_arith! [clD, Cl.t, T.d, T.ds, oEqN_strI so_if so_call, oEqN_strI so_if so_for, ne_if_call, ne_if_for, decide_false, GG_call]
    refine tallest_in_ok r 100 n c C _ _ h.2.1 (by have := h.2.2; omega) h.1 ?_
    exact ⟨C, Sub.refl, hq⟩
  | frm c =>
    simp_arith! [clD, Cl.t, T.d, T.ds, oEqN_strI so_from so_call, oEqN_strI so_from so_for, ne_from_call, ne_from_for, decide_false, GG_call]
    refine tallest_in_ok r 100 n c C _ _ h.2.1 (by have := h.2.2; omega) h.1 ?_
    exact ⟨C, Sub.refl, hq⟩
  | cfor v o =>
    simp_arith! [clD, Cl.t, T.d, T.ds, oEqN_strI so_for so_call, oEqN_strI so_for so_for, ne_for_call, decide_true, decide_false, GG_call]
    refine tm_at (by omega) (fun m => tallness_ok r m v C _ _ h.1 ?_)
    refine tm_at (by omega) (fun m => tall_em (n := m) h.2 ?_)
    exact ⟨_, _, rfl, C, Sub.refl, hq⟩

/-! joining: the highest level, the questions -/
def stepT (lt : Int × Int) : Cl → Int × Int
  | .cfor _ _ => (lt.1 + 1, lt.2)
  | .cif c _ => (lt.1, if lt.1 + riseC c > lt.2 then lt.1 + riseC c else lt.2)
  | .frm c => (lt.1, if lt.1 + riseC c > lt.2 then lt.1 + riseC c else lt.2)
  | .call _ => lt
def topL (cs : List Cl) (k : Int) : Int := (fun lt : Int × Int => if lt.1 > lt.2 then lt.1 else lt.2) (cs.foldl stepT (k, k))
def topB : List CS := match b_top_of with
  | [_, .forS _ _ _ b, _] => b
  | _ => []
theorem top_turn {n r : Nat} {E : Kx} {C : CH} {c : Cl} {lt : Int × Int} {Dd : EndsC} {x0 x1 : Option D} (h : clV r c)
    (hD : Dd.nx [x0, x1, some (clD c), some (.int (stepT lt c).1), some (.int (stepT lt c).2)] C) :
    rdSs (GG (n + 101)) (exN E) topB Dd [x0, x1, some (clD c), some (.int lt.1), some (.int lt.2)] C := by
  have hsl : 1000000 ≤ sizeLine := by decide
  simp only [topB, b_top_of]
  rw [rdSs_cons]
  cases c with
  | call v =>
    simp_arith [clD, Cl.t, T.d, T.ds]
    simp only [ne_call_if, ne_call_from, decide_false, Bool.or_self, Bool.or_false, Bool.false_eq_true, if_false]
    rw [rdSs_cons]
    simp_arith [oEqN_strI so_call so_for, ne_call_for, decide_false]
    exact hD
  | cfor v o =>
    simp_arith [clD, Cl.t, T.d, T.ds]
    simp only [ne_for_if, ne_for_from, decide_false, Bool.or_self, Bool.or_false, Bool.false_eq_true, if_false]
    rw [rdSs_cons]
    simp_arith [oEqN_strI so_for so_for, decide_true]
    rw [rdSs_cons]
    simp_arith []
    exact hD
  | cif c l =>
    simp_arith [clD, Cl.t, T.d, T.ds]
    simp only [decide_true, Bool.true_or, if_true]
    rw [rdSs_cons]
    simp_arith [GG_call]
    refine rise_ok r 100 n c C _ _ h.2.1 (by have := h.2.2; omega) h.1 ?_
    simp_arith []
    refine ⟨_, _, rfl, ?_⟩
    try dsimp only
    rw [rdSs_cons]
    simp_arith [oEqN_strI so_if so_for, ne_if_for, decide_false]
    exact hD
  | frm c =>
    simp_arith [clD, Cl.t, T.d, T.ds]
    simp only [decide_true, Bool.or_true, if_true]
    rw [rdSs_cons]
    simp_arith [GG_call]
    refine rise_ok r 100 n c C _ _ h.2.1 (by have := h.2.2; omega) h.1 ?_
    simp_arith []
    refine ⟨_, _, rfl, ?_⟩
    try dsimp only
    rw [rdSs_cons]
    simp_arith [oEqN_strI so_from so_for, ne_from_for, decide_false]
    exact hD
theorem top_loop {n r : Nat} {E : Kx} {C : CH} {Dd : EndsC} {x0 x1 : Option D} : ∀ (cs : List Cl) (lt : Int × Int) (y : Option D), (∀ c ∈ cs, clV r c) →
    (∀ y, Dd.nx [x0, x1, y, some (.int (cs.foldl stepT lt).1), some (.int (cs.foldl stepT lt).2)] C) →
    forL (hT (.nm 2)) (rdSs (GG (n + 101)) (exN E) topB) (fun _ => True) Dd (cs.map clD) [x0, x1, y, some (.int lt.1), some (.int lt.2)] C
  | [], lt, y, _, hD => ⟨trivial, hD y⟩
  | c :: cs, lt, y, h, hD => by
    refine ⟨trivial, _, rfl, ?_⟩
    refine top_turn (n := n) (h c List.mem_cons_self) ?_
    exact top_loop cs (stepT lt c) _ (fun d hd => h d (List.mem_cons_of_mem _ hd)) hD
theorem top_of_ok {n r : Nat} {cs : List Cl} {k : Int} {C : CH} {Q : Kv} {E : Kx} (h : ∀ c ∈ cs, clV r c) (hq : Q (.int (topL cs k)) C) : W (n + 102) i_top_of [(clsT cs).d, .int k] C Q E := by
  rw [W_top_of]
  unfold b_top_of
  rw [rdSs_cons]
  simp_arith []
  refine ⟨_, _, ⟨rfl, rfl⟩, ?_⟩
  try dsimp only
  rw [rdSs_cons]
  simp_arith [sFor, iSeq, clsT_d]
  refine top_loop (n := n) cs (k, k) _ h fun y => ?_
  try dsimp only
  rw [rdSs_cons]
  simp_arith []
  exact ⟨_, _, rfl, C, Sub.refl, hq⟩
/-- a comprehension under a test: what is left out is not worked out -/
theorem lcL_ifp0 {α : Type} {TT : CT} {vs : List Nat} {σ : Env3} {tt : CTT} {e : CTE} {G : CH → Prop} {Kq : List D → CH → Prop} (g f : α → D) (p : α → Bool) {C : CH} (hG : G C) : ∀ (ts : List α) (acc : List D), (∀ t ∈ ts, ∃ σ2, bindT TT (g t) (wipe3 σ vs) = some σ2 ∧ (∀ Q : Bool → CH → Prop, Q (p t) C → tt σ2 C Q) ∧ (p t = true → ∀ Q : Kv, Q (f t) C → e σ2 C Q)) → acc.length + ts.length ≤ sizeLine → Kq (acc ++ (ts.filter p).map f) C → lcL TT vs σ tt e G Kq (ts.map g) acc C
  | [], acc, _, _, h => ⟨hG, by simpa using h⟩
  | d :: ds, acc, h, hl, hk => by
    obtain ⟨σ2, e1, e2, e3⟩ := h d List.mem_cons_self
    simp only [List.length_cons] at hl
    refine ⟨hG, σ2, e1, e2 _ ?_⟩
    by_cases hp : p d = true
    · rw [if_pos hp]
      refine e3 hp _ ⟨by omega, lcL_ifp0 g f p hG ds (acc ++ [f d]) (fun d' hd => h d' (List.mem_cons_of_mem _ hd)) ?_ ?_⟩
      · simp only [List.length_append, List.length_cons, List.length_nil]; omega
      · simpa [List.filter_cons, hp] using hk
    · rw [if_neg hp]
      refine lcL_ifp0 g f p hG ds acc (fun d' hd => h d' (List.mem_cons_of_mem _ hd)) (by omega) ?_
      simpa [List.filter_cons, hp] using hk
theorem lcL_ifp {α : Type} {TT : CT} {vs : List Nat} {σ : Env3} {tt : CTT} {e : CTE} {G : CH → Prop} {Kq : List D → CH → Prop} (g f : α → D) (p : α → Bool) {C : CH} (hG : G C) (ts : List α) (h : ∀ t ∈ ts, ∃ σ2, bindT TT (g t) (wipe3 σ vs) = some σ2 ∧ (∀ Q : Bool → CH → Prop, Q (p t) C → tt σ2 C Q) ∧ (p t = true → ∀ Q : Kv, Q (f t) C → e σ2 C Q)) (hl : ts.length ≤ sizeLine) (hk : Kq ((ts.filter p).map f) C) : lcL TT vs σ tt e G Kq (ts.map g) [] C :=
  lcL_ifp0 g f p hG ts [] h (by simpa using hl) (by simpa using hk)
def askB (c : Cl) : Bool := match c with
  | .cif _ _ => true
  | .frm _ => true
  | _ => false
def askI (c : Cl) : Int := (askCl c : Nat)
theorem asks_sum : ∀ cs : List Cl, (((cs.filter askB).map askI).sum : Int) = ((asksL cs : Nat) : Int)
  | [] => rfl
  | c :: cs => by
    have ih := asks_sum cs
    cases c with
    | call v => simpa [askB, asksL, askCl] using ih
    | cfor v o => simpa [askB, asksL, askCl] using ih
    | cif c l => simp only [List.filter_cons, askB, if_true, List.map_cons, List.sum_cons, ih, asksL, askI, askCl]; omega
    | frm c => simp only [List.filter_cons, askB, if_true, List.map_cons, List.sum_cons, ih, asksL, askI, askCl]; omega
/-- conditions that are asked for their questions -/
def clA : Cl → Prop
  | .cif c _ => Lim c ∧ csize c ≤ 10000
  | .frm c => Lim c ∧ csize c ≤ 10000
  | _ => True
theorem asks_in_ok {n : Nat} {cs : List Cl} {C : CH} {Q : Kv} {E : Kx} (h : ∀ c ∈ cs, clA c) (hl : cs.length ≤ 1000) (hq : Q (.int (asksL cs : Nat)) C) : W (n + 3) i_asks_in [(clsT cs).d] C Q E := by
  have hsl : 1000000 ≤ sizeLine := by decide
  rw [W_asks_in]
  unfold b_asks_in
  simp_arith! [cLc, iSeq, clsT_d]
  refine lcL_ifp clD (fun c => .int (askI c)) askB trivial cs (fun c hc => ⟨_, rfl, fun Q' hQ => ?_, fun hb Q' hQ => ?_⟩) (by omega) ?_
  · cases c with
    | call v => simp_arith! [wipe3, clD, Cl.t, T.d, T.ds, ne_call_if, ne_call_from, decide_false]; exact hQ
    | cfor v o => simp_arith! [wipe3, clD, Cl.t, T.d, T.ds, ne_for_if, ne_for_from, decide_false]; exact hQ
    | cif c l => simp_arith! [wipe3, clD, Cl.t, T.d, T.ds, decide_true]; exact hQ
    | frm c => simp_arith! [wipe3, clD, Cl.t, T.d, T.ds, decide_true]; exact hQ
  · cases c with
    | call v => cases hb
    | cfor v o => cases hb
    | cif c l =>
      have := h _ hc
      simp_arith! [wipe3, clD, Cl.t, T.d, T.ds, GG_call]
      exact asks_ok (n := n) this.1 (by have := this.2; omega) hQ
    | frm c =>
      have := h _ hc
      simp_arith! [wipe3, clD, Cl.t, T.d, T.ds, GG_call]
      exact asks_ok (n := n) this.1 (by have := this.2; omega) hQ
  · intro p hp
    refine ⟨(cs.filter askB).map askI, by rw [List.map_map]; rfl, ?_⟩
    rw [asks_sum]
    exact ⟨C, sub_new hp, hq⟩

/-! joining: what is asked of two forms -/
theorem need_any {n : Nat} {b : Bool} {m : D} {C : CH} {Q : Kv} {E : Kx} (h1 : b = true → Q .non C) (h2 : b = false → E ⟨3, []⟩ C) : W (n + 1) i_need_ [.bl b, m] C Q E := by
  rw [W_need_]
  unfold b_need_
  cases b with
  | true => simp_arith! []; exact ⟨C, Sub.refl, h1 rfl⟩
  | false => simp_arith! [sRaiseE]; exact ⟨C, Sub.refl, h2 rfl⟩
def isVal : Em → Bool
  | .val _ => true
  | .word _ => false
def noEnd : Cl → Bool
  | .cfor _ o => o.isNone
  | _ => true
def endsB (F : Fm) : Bool := decide (F.lev = 0) || F.cls.any (isIf1 0)
def hasW (G : Fm) (w : Str) : Bool := (G.cls.map clW).any fun x => decide (x = w)
def j1 (F : Fm) : Bool := isVal F.val
def j2 (F : Fm) : Bool := F.oth.isNone && F.cls.all noEnd
def j3 (F G : Fm) : Bool := G.oth.isNone || !endsB F
def j4 (F G : Fm) : Bool := decide (F.lev = F.dep) || (!hasW G "for" && !hasW G "from")
def j5 (F G : Fm) : Bool := decide ((F.cls.length : Int) + G.cls.length ≤ 400)
def j6 (F G : Fm) : Bool := decide ((asksL F.cls : Int) + (asksL G.cls : Nat) ≤ 400)
def j7 (F G : Fm) : Bool := decide (topL G.cls F.dep ≤ 3)
def joinB (F G : Fm) : Bool := j1 F && (j2 F && (j3 F G && (j4 F G && (j5 F G && (j6 F G && j7 F G)))))
/-- what a form's clauses are here -/
structure JFm (F : Fm) : Prop where
  v : ∀ c ∈ F.cls, clV 4 c
  a : ∀ c ∈ F.cls, clA c
  len : F.cls.length ≤ 400
theorem is_str_val {n : Nat} {C : CH} (v : Em) : ∃ tt, tyC C v.t.d = some tt ∧ (GG n).kit tt (.inl "str") = some (!isVal v) := by
  cases v with
  | word z => exact ⟨.inl "str", rfl, by simp [GG_kit]; rfl⟩
  | val v =>
    cases v with
    | item i => exact ⟨.inl "int", rfl, by simp [GG_kit]; rfl⟩
    | app1 z a => exact ⟨.inl "tuple", rfl, by simp [GG_kit]; rfl⟩
    | app2 z a b => exact ⟨.inl "tuple", rfl, by simp [GG_kit]; rfl⟩
abbrev nσ (F G : Fm) (pw : Addr) (b : Bool) : Env3 := [some (partsD F), some (partsD G), some (.ref pw), some (.bl b), some (clsT F.cls).d, some F.val.t.d, some (.int F.lev), some (othT F.oth).d, some (.int F.dep), none]
section
variable {n : Nat} {F G : Fm} {C C2 : CH} {pw : Addr} {Q : Kv} {E : Kx}
theorem jn7 (hG : JFm G) (q : j7 F G = true → Q .non C) (e : j7 F G = false → E ⟨3, []⟩ C) (hs : Sub C C2) : rdSs (GG (n + 102)) (exN E) (b_need_joinable.drop 9) (endN Q) (nσ F G pw (endsB F)) C2 := by
  simp only [b_need_joinable, List.drop, nσ, partsD]
  rw [rdSs_cons]
  simp_arith [GG_call]
  refine top_of_ok (n := n) hG.v ?_
  simp_arith []
  refine need_any (fun t => ?_) fun t => ⟨C, hs, e t⟩
  exact ⟨C, hs, q t⟩
theorem jn6 (hF : JFm F) (hG : JFm G) (q : (j6 F G && j7 F G) = true → Q .non C) (e : (j6 F G && j7 F G) = false → E ⟨3, []⟩ C) (hs : Sub C C2) : rdSs (GG (n + 102)) (exN E) (b_need_joinable.drop 8) (endN Q) (nσ F G pw (endsB F)) C2 := by
  have nx := jn7 (n := n) (F := F) (pw := pw) (C := C) (C2 := C2) (Q := Q) (E := E) hG
  simp only [b_need_joinable, List.drop, nσ, partsD] at nx ⊢
  rw [rdSs_cons]
  simp_arith [GG_call]
  have lF := hF.len
  have lG := hG.len
  refine asks_in_ok (n := n + 99) hF.a (by omega) ?_
  refine asks_in_ok (n := n + 99) hG.a (by omega) ?_
  simp_arith []
  refine need_any (fun t => ?_) fun t => ⟨C, hs, e (by rw [show j6 F G = false from t]; rfl)⟩
  refine nx (fun h => q ?_) (fun h => e ?_) hs
  · rw [show j6 F G = true from t, h]; rfl
  · rw [show j6 F G = true from t, h]; rfl
theorem jn5 (hF : JFm F) (hG : JFm G) (hw : C2 pw = some (.lst ((G.cls.map clW).map D.str))) (q : (j5 F G && (j6 F G && j7 F G)) = true → Q .non C) (e : (j5 F G && (j6 F G && j7 F G)) = false → E ⟨3, []⟩ C) (hs : Sub C C2) : rdSs (GG (n + 102)) (exN E) (b_need_joinable.drop 7) (endN Q) (nσ F G pw (endsB F)) C2 := by
  have nx := jn6 (n := n) (F := F) (pw := pw) (C := C) (C2 := C2) (Q := Q) (E := E) hF hG
  simp only [b_need_joinable, List.drop, nσ, partsD] at nx ⊢
  rw [rdSs_cons]
  simp_arith [GG_call, clsT_d, hw]
  simp only [List.length_map]
  refine need_any (fun t => ?_) fun t => ⟨C, hs, e (by rw [show j5 F G = false from t]; rfl)⟩
  rw [← clsT_d, ← clsT_d]
  refine nx (fun h => q ?_) (fun h => e ?_) hs
  · rw [show j5 F G = true from t, h]; rfl
  · rw [show j5 F G = true from t, h]; rfl
theorem jn4 (hF : JFm F) (hG : JFm G) (hw : C2 pw = some (.lst ((G.cls.map clW).map D.str))) (q : (j4 F G && (j5 F G && (j6 F G && j7 F G))) = true → Q .non C) (e : (j4 F G && (j5 F G && (j6 F G && j7 F G))) = false → E ⟨3, []⟩ C) (hs : Sub C C2) : rdSs (GG (n + 102)) (exN E) (b_need_joinable.drop 6) (endN Q) (nσ F G pw (endsB F)) C2 := by
  have nx := jn5 (n := n) (F := F) (pw := pw) (C := C) (C2 := C2) (Q := Q) (E := E) hF hG hw
  simp only [b_need_joinable, List.drop, nσ, partsD] at nx ⊢
  rw [rdSs_cons]
  simp_arith [GG_call]
  have go : j4 F G = true → rdSs (GG (n + 102)) (exN E) (b_need_joinable.drop 7) (endN Q) (nσ F G pw (endsB F)) C2 := fun t => by
    refine nx (fun h => q ?_) (fun h => e ?_) hs
    · rw [t, h]; rfl
    · rw [t, h]; rfl
  have no : j4 F G = false → ∃ C1, Sub C1 C2 ∧ E ⟨3, []⟩ C1 := fun t => ⟨C, hs, e (by rw [t]; rfl)⟩
  by_cases hl : F.lev = F.dep
  · rw [if_pos (decide_eq_true hl)]
    exact need_any (fun _ => go (by simp [j4, hl])) (fun t => nomatch t)
  · rw [if_neg (by simp [hl])]
    refine in_strs hw ?_
    refine ⟨_, rfl, ?_⟩
    show if (!hasW G "for") = true then _ else _
    cases hf : hasW G "for" with
    | true =>
      simp only [Bool.not_true, Bool.false_eq_true, if_false]
      exact need_any (fun t => nomatch t) (fun _ => no (by simp [j4, hl, hf]))
    | false =>
      simp only [Bool.not_false, if_true]
      refine in_strs hw ?_
      show W (n + 102) i_need_ [.bl (!hasW G "from"), _] C2 _ _
      refine need_any (fun t => go ?_) (fun t => no ?_)
      · simp [j4, hl, hf] at t ⊢; exact t
      · simp [j4, hl, hf] at t ⊢; exact t
theorem jn3 (hF : JFm F) (hG : JFm G) (hw : C2 pw = some (.lst ((G.cls.map clW).map D.str))) (q : (j3 F G && (j4 F G && (j5 F G && (j6 F G && j7 F G)))) = true → Q .non C) (e : (j3 F G && (j4 F G && (j5 F G && (j6 F G && j7 F G)))) = false → E ⟨3, []⟩ C) (hs : Sub C C2) : rdSs (GG (n + 102)) (exN E) (b_need_joinable.drop 5) (endN Q) (nσ F G pw (endsB F)) C2 := by
  have nx := jn4 (n := n) (F := F) (pw := pw) (C := C) (C2 := C2) (Q := Q) (E := E) hF hG hw
  simp only [b_need_joinable, List.drop, nσ, partsD] at nx ⊢
  have go : j3 F G = true → rdSs (GG (n + 102)) (exN E) (b_need_joinable.drop 6) (endN Q) (nσ F G pw (endsB F)) C2 := fun t => by
    refine nx (fun h => q ?_) (fun h => e ?_) hs
    · rw [t, h]; rfl
    · rw [t, h]; rfl
  have no : j3 F G = false → ∃ C1, Sub C1 C2 ∧ E ⟨3, []⟩ C1 := fun t => ⟨C, hs, e (by rw [t]; rfl)⟩
  rw [rdSs_cons]
  have a3 : L2.atI [(clsT G.cls).d, G.val.t.d, .int G.lev, (othT G.oth).d, .int G.dep] 3 = some (othT G.oth).d := atI_nat (i := 3) rfl
  simp_arith [GG_call]
  refine ⟨_, a3, ?_⟩
  have hn : isNon (othT G.oth).d = G.oth.isNone := by cases G.oth <;> rfl
  show if isNon (othT G.oth).d = true then _ else _
  rw [hn]
  cases ho : G.oth.isNone with
  | true =>
    rw [if_pos rfl]
    exact need_any (fun _ => go (by simp [j3, ho])) (fun t => nomatch t)
  | false =>
    rw [if_neg (by simp)]
    exact need_any (fun t => go (by simp [j3, ho] at t ⊢; exact t)) (fun t => no (by simp [j3, ho] at t ⊢; exact t))
theorem jn2 (hF : JFm F) (hG : JFm G) (hw : C2 pw = some (.lst ((G.cls.map clW).map D.str))) (q : (j2 F && (j3 F G && (j4 F G && (j5 F G && (j6 F G && j7 F G))))) = true → Q .non C) (e : (j2 F && (j3 F G && (j4 F G && (j5 F G && (j6 F G && j7 F G))))) = false → E ⟨3, []⟩ C) (hs : Sub C C2) : rdSs (GG (n + 102)) (exN E) (b_need_joinable.drop 4) (endN Q) (nσ F G pw (endsB F)) C2 := by
  have lF := hF.len
  have hsl : 1000000 ≤ sizeLine := by decide
  have go : j2 F = true → ∀ C3, Sub C2 C3 → rdSs (GG (n + 102)) (exN E) (b_need_joinable.drop 5) (endN Q) (nσ F G pw (endsB F)) C3 := fun t C3 s3 => by
    refine jn3 (n := n) (F := F) (pw := pw) (C := C) (C2 := C3) (Q := Q) (E := E) hF hG (s3 _ _ hw) (fun h => q ?_) (fun h => e ?_) (hs.trans s3)
    · rw [t, h]; rfl
    · rw [t, h]; rfl
  have no : j2 F = false → ∀ C3, Sub C2 C3 → ∃ C1, Sub C1 C3 ∧ E ⟨3, []⟩ C1 := fun t C3 s3 => ⟨C, hs.trans s3, e (by rw [t]; rfl)⟩
  simp only [b_need_joinable, List.drop, nσ, partsD] at go ⊢
  rw [rdSs_cons]
  simp_arith [GG_call, cLc, iSeq, clsT_d]
  have hn : isNon (othT F.oth).d = F.oth.isNone := by cases F.oth <;> rfl
  show if isNon (othT F.oth).d = true then _ else _
  rw [hn]
  cases ho : F.oth.isNone with
  | false =>
    rw [if_neg (by simp)]
    exact need_any (fun t => nomatch t) (fun _ => no (by simp [j2, ho]) C2 Sub.refl)
  | true =>
    rw [if_pos rfl]
    refine lcL_of clD (fun c => .bl (noEnd c)) trivial F.cls (fun c _ => ⟨_, rfl, fun Q'' hQ => ?_⟩) (by omega) ?_
    · cases c with
      | call v => simp_arith! [wipe3, clD, Cl.t, T.d, T.ds, oEqN_strI so_call so_for, ne_call_for, decide_false]; exact hQ
      | cif k l => simp_arith! [wipe3, clD, Cl.t, T.d, T.ds, oEqN_strI so_if so_for, ne_if_for, decide_false]; exact hQ
      | frm k => simp_arith! [wipe3, clD, Cl.t, T.d, T.ds, oEqN_strI so_from so_for, ne_from_for, decide_false]; exact hQ
      | cfor v o =>
        simp_arith! [wipe3, clD, Cl.t, T.d, T.ds, oEqN_strI so_for so_for, decide_true]
        cases o with
        | none => exact hQ
        | some x =>
          cases x with
          | word z => exact hQ
          | val v => cases v <;> exact hQ
    · intro x hx
      refine oAll_new (bs := F.cls.map noEnd) (by rw [List.map_map]; rfl) ?_
      have e2 : (F.cls.map noEnd).all id = F.cls.all noEnd := by rw [List.all_map]; rfl
      rw [e2]
      have s3 := sub_new (o := .lst (F.cls.map fun c => .bl (noEnd c))) hx
      rw [clsT_d, clsT_d] at go
      exact need_any (fun t => go (by simp only [j2, ho, t]; rfl) _ s3) (fun t => no (by simp only [j2, ho, t]; rfl) _ s3)
theorem jn1 (hF : JFm F) (hG : JFm G) (hw : C2 pw = some (.lst ((G.cls.map clW).map D.str))) (q : joinB F G = true → Q .non C) (e : joinB F G = false → E ⟨3, []⟩ C) (hs : Sub C C2) : rdSs (GG (n + 102)) (exN E) (b_need_joinable.drop 3) (endN Q) (nσ F G pw (endsB F)) C2 := by
  have go : j1 F = true → rdSs (GG (n + 102)) (exN E) (b_need_joinable.drop 4) (endN Q) (nσ F G pw (endsB F)) C2 := fun t => by
    refine jn2 (n := n) (F := F) (pw := pw) (C := C) (C2 := C2) (Q := Q) (E := E) hF hG hw (fun h => q ?_) (fun h => e ?_) hs
    · unfold joinB; rw [t, h]; rfl
    · unfold joinB; rw [t, h]; rfl
  have no : j1 F = false → ∃ C1, Sub C1 C2 ∧ E ⟨3, []⟩ C1 := fun t => ⟨C, hs, e (by unfold joinB; rw [t]; rfl)⟩
  simp only [b_need_joinable, List.drop, nσ, partsD] at go ⊢
  rw [rdSs_cons]
  simp_arith [GG_call]
  obtain ⟨tt, h1, h2⟩ := is_str_val (n := n + 102) (C := C2) F.val
  refine ⟨tt, h1, _, h2, ?_⟩
  rw [Bool.not_not]
  exact need_any go no
theorem need_joinable_ok (hF : JFm F) (hG : JFm G) (q : joinB F G = true → Q .non C) (e : joinB F G = false → E ⟨3, []⟩ C) : W (n + 103) i_need_joinable [partsD F, partsD G] C Q E := by
  have hsl : 1000000 ≤ sizeLine := by decide
  have lF := hF.len
  have lG := hG.len
  rw [W_need_joinable]
  unfold b_need_joinable
  simp only [partsD]
  rw [rdSs_cons]
  simp_arith []
  try dsimp only
  rw [rdSs_cons]
  simp_arith [cLc, iSeq, clsT_d]
  refine lcL_of clD (fun c => .str (clW c)) trivial G.cls (fun c _ => ⟨_, rfl, fun Q' hQ => ?_⟩) (by omega) ?_
  · obtain ⟨x, r, ec⟩ := cl_at c
    have e' : clD c = .tup (.str (clW c) :: x :: r) := ec
    simp_arith! [wipe3, e']
    exact hQ
  intro pw hpw
  have s1 := sub_new (o := .lst (G.cls.map fun c => .str (clW c))) hpw
  have hw1 : cup C pw (.lst (G.cls.map fun c => .str (clW c))) pw = some (.lst ((G.cls.map clW).map D.str)) := by rw [cup_same, List.map_map]; rfl
  generalize cup C pw (.lst (G.cls.map fun c => .str (clW c))) = C1 at s1 hw1
  have go : ∀ b, b = endsB F → ∀ C3, Sub C1 C3 → rdSs (GG (n + 102)) (exN E) (b_need_joinable.drop 3) (endN Q) (nσ F G pw b) C3 := fun b hb C3 s3 => by
    subst hb
    exact jn1 (n := n) (F := F) (pw := pw) (C := C) (C2 := C3) (Q := Q) (E := E) hF hG (s3 _ _ hw1) q e (s1.trans s3)
  simp only [b_need_joinable, List.drop, nσ, partsD, clsT_d] at go
  try dsimp only
  rw [rdSs_cons]
  simp_arith [cLc, iSeq]
  by_cases h0 : F.lev = 0
  · rw [if_pos (decide_eq_true h0)]
    exact go true (by simp [endsB, h0]) C1 Sub.refl
  · rw [if_neg (by simp [h0])]
    refine lcL_of clD (fun c => .bl (isIf1 0 c)) trivial F.cls (fun c _ => ⟨_, rfl, fun Q'' hQ => ?_⟩) (by omega) ?_
    · cases c with
      | cif k l => simp_arith! [wipe3, clD, Cl.t, T.d, T.ds, oEqN_strI so_if so_if, decide_true]; exact hQ
      | call v => simp_arith! [wipe3, clD, Cl.t, T.d, T.ds, oEqN_strI so_call so_if, ne_call_if, decide_false]; exact hQ
      | frm k => simp_arith! [wipe3, clD, Cl.t, T.d, T.ds, oEqN_strI so_from so_if, ne_from_if, decide_false]; exact hQ
      | cfor v o => simp_arith! [wipe3, clD, Cl.t, T.d, T.ds, oEqN_strI so_for so_if, ne_for_if, decide_false]; exact hQ
    · intro x hx
      refine oAll_new (bs := F.cls.map (isIf1 0)) (by rw [List.map_map]; rfl) ?_
      have e2 : (F.cls.map (isIf1 0)).any id = F.cls.any (isIf1 0) := by rw [List.any_map]; rfl
      rw [e2]
      exact go _ (by simp [endsB, h0]) _ (sub_new hx)
end

/-! joining: two forms, one behind the other -/
theorem vIn_h (w : Vv) (k : Int) : ∀ v : Vv, (vIn w k v).h ≤ v.h + w.h
  | .item i => by
    have := w.h_nonneg
    simp only [vIn]
    split <;> simp only [Vv.h] <;> omega
  | .app1 z a => by have := vIn_h w k a; simp only [vIn, Vv.h]; omega
  | .app2 z a b => by
    have := vIn_h w k a
    have := vIn_h w k b
    simp only [vIn, Vv.h]
    split <;> split <;> omega
theorem tmV.in_ {r q : Nat} {t : T} {w : Vv} {k : Int} (h : tmV r t) (hw : w.h ≤ q) : tmV (r + q) (vInT w.t k t) := by
  obtain ⟨v, rfl, hv⟩ := h
  refine ⟨vIn w k v, vInT_vv w k v, ?_⟩
  have := vIn_h w k v
  omega
mutual
theorem tmsC.in_ {r q : Nat} {w : Vv} {k : Int} (hw : w.h ≤ q) : ∀ c : Cn, tmsC r c → tmsC (r + q) (cIn w.t k c)
  | .ask t _, h => tmV.in_ h hw
  | .con _ ps, h => ⟨by rw [cIns_map, List.length_map]; exact h.1, tmsCs.in_ hw ps h.2⟩
  | .qu _ t c, h => ⟨tmV.in_ h.1 hw, tmsC.in_ hw c h.2⟩
theorem tmsCs.in_ {r q : Nat} {w : Vv} {k : Int} (hw : w.h ≤ q) : ∀ cs : List Cn, tmsCs r cs → tmsCs (r + q) (cIns w.t k cs)
  | [], _ => trivial
  | c :: cs, h => ⟨tmsC.in_ hw c h.1, tmsCs.in_ hw cs h.2⟩
end
mutual
theorem cIn_nums (w : T) (k : Int) : ∀ c : Cn, ht (cIn w k c) = ht c ∧ csize (cIn w k c) = csize c ∧ asks (cIn w k c) = asks c
  | .ask t _ => ⟨rfl, rfl, rfl⟩
  | .con _ ps => by obtain ⟨a, b, c⟩ := cIns_nums w k ps; simp only [cIn, ht, csize, asks, a, b, c]; exact ⟨trivial, trivial, trivial⟩
  | .qu _ t c => by obtain ⟨a, b, c⟩ := cIn_nums w k c; simp only [cIn, ht, csize, asks, a, b, c]; exact ⟨trivial, trivial, trivial⟩
theorem cIns_nums (w : T) (k : Int) : ∀ cs : List Cn, hts (cIns w k cs) = hts cs ∧ csizes (cIns w k cs) = csizes cs ∧ askss (cIns w k cs) = askss cs
  | [] => ⟨rfl, rfl, rfl⟩
  | c :: cs => by
    obtain ⟨a, b, d⟩ := cIn_nums w k c
    obtain ⟨a', b', d'⟩ := cIns_nums w k cs
    simp only [cIns, hts, csizes, askss, a, b, d, a', b', d']; exact ⟨trivial, trivial, trivial⟩
end
theorem emH.in_ {r q : Nat} {e : Em} {w : Vv} {k : Int} (h : emH r e) (hw : w.h ≤ q) : emH (r + q) (emIn w k e) := by
  cases e with
  | word z => trivial
  | val v =>
    have h : v.h ≤ r := h
    have := vIn_h w k v
    show (vIn w k v).h ≤ ((r + q : Nat) : Int)
    omega
theorem clV.in_ {r q : Nat} {c : Cl} {w : Vv} {first k : Int} (h : clV r c) (hw : w.h ≤ q) : clV (r + q) (clIn w first k c) := by
  cases c with
  | call v =>
    have h : v.h ≤ r := h
    have := vIn_h w k v
    show (vIn w k v).h ≤ ((r + q : Nat) : Int)
    omega
  | cif c l => obtain ⟨a, b, _⟩ := cIn_nums w.t k c; exact ⟨tmsC.in_ hw c h.1, by rw [a]; exact h.2.1, by rw [b]; exact h.2.2⟩
  | frm c => obtain ⟨a, b, _⟩ := cIn_nums w.t k c; exact ⟨tmsC.in_ hw c h.1, by rw [a]; exact h.2.1, by rw [b]; exact h.2.2⟩
  | cfor v o =>
    refine ⟨?_, fun e he => ?_⟩
    · have h : v.h ≤ r := h.1
      have := vIn_h w k v
      show (vIn w k v).h ≤ ((r + q : Nat) : Int)
      omega
    · obtain ⟨e0, h0, rfl⟩ := Option.map_eq_some_iff.mp he
      exact emH.in_ (h.2 e0 h0) hw
theorem emTall_nn (o : Option Em) : 0 ≤ emTall o := by
  cases o with
  | none => exact Int.le_refl _
  | some e => cases e with
    | word z => exact Int.le_refl _
    | val v => exact v.h_nonneg
theorem clTall_nn {r : Nat} {c : Cl} (h : clV r c) : 0 ≤ clTall c := by
  cases c with
  | call v => exact v.h_nonneg
  | cif c l => exact tall_nn c h.1
  | frm c => exact tall_nn c h.1
  | cfor v o => have := emTall_nn o; have := v.h_nonneg; simp only [clTall]; split <;> omega
/-- the joined form's clauses -/
def jCls (F G : Fm) (w : Vv) : List Cl := G.cls.map (clIn w F.lev F.dep)
def jTop (F G : Fm) (w : Vv) : Int := maxs (emTall (some (emIn w F.dep G.val)) :: (jCls F G w).map clTall)
section
variable {n : Nat} {F G : Fm} {C : CH} {Q : Kv} {E : Kx}
theorem chained_no (hF : JFm F) (hG : JFm G) (j : joinB F G = false) (e : E ⟨3, []⟩ C) : W (n + 104) i_chained [partsD F, partsD G] C Q E := by
  rw [W_chained]
  unfold b_chained
  rw [rdSs_cons]
  simp_arith [GG_call]
  refine need_joinable_ok (n := n) hF hG (fun t => ?_) fun _ => ⟨C, Sub.refl, e⟩
  rw [j] at t; cases t
theorem chained_ok {w : Vv} (hF : JFm F) (hG : JFm G) (hw : F.val = .val w) (w4 : w.h ≤ 4) (gv : emH 4 G.val) (j : joinB F G = true) (q : jTop F G w ≤ 4 → Q (.tup [(clsT (F.cls ++ jCls F G w)).d, (emIn w F.dep G.val).t.d, .int (lIn F.lev F.dep G.lev), (othT G.oth).d]) C)
    (e : ¬ jTop F G w ≤ 4 → E ⟨3, []⟩ C) : W (n + 112) i_chained [partsD F, partsD G] C Q E := by
  have hsl : 1000000 ≤ sizeLine := by decide
  have lF := hF.len
  have lG := hG.len
  rw [W_chained]
  unfold b_chained
  rw [rdSs_cons]
  simp_arith [GG_call]
  refine need_joinable_ok (n := n + 8) hF hG (fun _ => ?_) (fun t => by rw [j] at t; cases t)
  have hwd : F.val.t.d = w.t.d := by rw [hw]; rfl
  simp only [partsD, hwd]
  try dsimp only
  rw [rdSs_cons]
  simp_arith []
  refine ⟨_, atI_nat (i := 4) rfl, ?_⟩
  rw [rdSs_cons]
  simp_arith [cLc, iSeq, clsT_d]
  refine lcL_of clD (fun c => clD (clIn w F.lev F.dep c)) trivial G.cls (fun c hc => ⟨_, rfl, fun Q' hQ => ?_⟩) (by omega) ?_
  · simp_arith! [wipe3, GG_call]
    exact clause_in_ok (n := n + 4) (r := 4) (hG.v c hc) hQ
  intro p hp
  have s1 := sub_new (o := .lst (G.cls.map fun c => clD (clIn w F.lev F.dep c))) hp
  have hc1 : cup C p (.lst (G.cls.map fun c => clD (clIn w F.lev F.dep c))) p = some (.lst ((jCls F G w).map clD)) := by rw [cup_same, jCls, List.map_map]; rfl
  generalize cup C p (.lst (G.cls.map fun c => clD (clIn w F.lev F.dep c))) = C1 at s1 hc1
  try dsimp only
  rw [rdSs_cons]
  simp_arith [GG_call]
  have eg : G.val.t.d = (oT (some G.val)).d := rfl
  rw [eg]
  refine emitted_in_ok (n := n + 105) (r := 4) (o := some G.val) (fun e he => by cases he; exact gv) ?_
  try dsimp only
  rw [rdSs_cons]
  simp_arith [GG_call]
  refine tall_em (n := n + 102) (r := 8) (o := some (emIn w F.dep G.val)) (fun e he => by cases he; exact emH.in_ (q := 4) gv w4) ?_
  simp_arith [oLst, cLc, iSeq]
  intro p1 hp1
  have hc2 := cup_old (u := .lst [.int (emTall (some (emIn w F.dep G.val)))]) hp1 hc1
  have hx2 : cup C1 p1 (.lst [.int (emTall (some (emIn w F.dep G.val)))]) p1 = some (.lst [.int (emTall (some (emIn w F.dep G.val)))]) := cup_same
  have s2 := s1.trans (sub_new (o := .lst [.int (emTall (some (emIn w F.dep G.val)))]) hp1)
  generalize cup C1 p1 (.lst [.int (emTall (some (emIn w F.dep G.val)))]) = C2 at hc2 hx2 s2
  have jv : ∀ c ∈ jCls F G w, clV (4 + 4) c := fun c hc => by
    obtain ⟨c0, h0, rfl⟩ := List.mem_map.mp hc
    exact clV.in_ (hG.v c0 h0) w4
  have jl : (jCls F G w).length = G.cls.length := by simp [jCls]
  refine ⟨_, hc2, ?_⟩
  refine lcL_of clD (fun c => .int (clTall c)) hc2 (jCls F G w) (fun c hc => ⟨_, rfl, fun Q' hQ => ?_⟩) (by omega) ?_
  · simp_arith! [wipe3, GG_call]
    exact height_of_ok (n := n) (r := 8) (jv c hc) hQ
  intro p2 hp2
  have hc3 := cup_old (u := .lst ((jCls F G w).map fun c => .int (clTall c))) hp2 hc2
  have hx3 := cup_old (u := .lst ((jCls F G w).map fun c => .int (clTall c))) hp2 hx2
  have hy3 : cup C2 p2 (.lst ((jCls F G w).map fun c => .int (clTall c))) p2 = some (.lst ((jCls F G w).map fun c => .int (clTall c))) := cup_same
  have s3 := s2.trans (sub_new (o := .lst ((jCls F G w).map fun c => .int (clTall c))) hp2)
  generalize cup C2 p2 (.lst ((jCls F G w).map fun c => .int (clTall c))) = C3 at hc3 hx3 hy3 s3
  refine ⟨_, _, hx3, hy3, by simp; omega, fun p3 hp3 => ?_⟩
  have hc4 := cup_old (u := .lst ([.int (emTall (some (emIn w F.dep G.val)))] ++ (jCls F G w).map fun c => .int (clTall c))) hp3 hc3
  have hz4 : cup C3 p3 (.lst ([.int (emTall (some (emIn w F.dep G.val)))] ++ (jCls F G w).map fun c => .int (clTall c))) p3 = some (.lst ((emTall (some (emIn w F.dep G.val)) :: (jCls F G w).map clTall).map D.int)) := by
    rw [cup_same, List.map_cons, List.map_map]; rfl
  have s4 := s3.trans (sub_new (o := .lst ([.int (emTall (some (emIn w F.dep G.val)))] ++ (jCls F G w).map fun c => .int (clTall c))) hp3)
  generalize cup C3 p3 (.lst ([.int (emTall (some (emIn w F.dep G.val)))] ++ (jCls F G w).map fun c => .int (clTall c))) = C4 at hc4 hz4 s4
  try dsimp only
  rw [rdSs_cons]
  simp_arith [GG_call]
  refine oMaxL_of hz4 (fun x hx => ?_) (by simp) ?_
  · rcases List.mem_cons.mp hx with e1 | hx
    · rw [e1]; exact emTall_nn _
    · obtain ⟨c, hc, rfl⟩ := List.mem_map.mp hx
      exact clTall_nn (jv c hc)
  simp_arith []
  refine need_any (fun t => ?_) (fun t => ⟨C, s4, e (of_decide_eq_false t)⟩)
  have t := of_decide_eq_true t
  try dsimp only
  rw [rdSs_cons]
  simp_arith [GG_call, oTuple]
  refine ⟨_, hc4, by simp; omega, ?_⟩
  refine level_in_ok (n := n + 110) ?_
  refine ⟨_, atI_nat (i := 3) rfl, ?_⟩
  refine ⟨C, s4, ?_⟩
  have key := q t
  rw [clsT_d, List.map_append] at key
  exact key
theorem GG_k44 (n : Nat) : (GG n).kit (.inr 4) (.inr 4) = some true := by
  show kit.get (.inr 4) (.inr 4) = some true
  decide +kernel
theorem make_ok {n : Nat} {F : Fm} {lvD : D} {C : CH} {Q : Addr → CH → Prop} {E : Kx} (h : FmOk F) (hl : lvD = .int F.lev ∨ (lvD = .non ∧ F.lev = F.dep)) (hq : ∀ p, C p = none → Q p (cup C p (FmO F))) :
    ∀ p, C p = none → W (n + 14) i_Form___init__ [.ref p, (clsT F.cls).d, F.val.t.d, lvD, (othT F.oth).d] (cup C p (.ins c_Form [])) (fun v C2 => v = .non ∧ Q p C2) E := fun p hp => by
  refine init_ok (n := n) h hl cup_same ⟨rfl, ?_⟩
  rw [cup_cup]
  exact hq p hp
/-- one | other -/
structure Joins (F G : Fm) (w : Vv) : Prop where
  val : F.val = .val w
  h : w.h ≤ 4
  gv : emH 4 G.val
  jn : joinB F G = true
  top : jTop F G w ≤ 4
def jFm (F G : Fm) (w : Vv) : Fm := ⟨F.cls ++ jCls F G w, emIn w F.dep G.val, lIn F.lev F.dep G.lev, G.oth⟩
theorem or_ok {w : Vv} {p q : Addr} (hF : JFm F) (hG : JFm G) (J : Joins F G w) (hp : C p = some (FmO F)) (hq' : C q = some (FmO G)) (ok : FmOk (jFm F G w)) (sz : FmSize (jFm F G w)) (nk : ∀ c ∈ (normFm (jFm F G w)).cls, okCl c)
    (hq : ∀ r C', Sub C C' → C r = none → C' r = some (FmO (normFm (jFm F G w))) → Q (.ref r) C') : W (n + 113) i_Form___or__ [.ref p, .ref q] C Q E := by
  rw [W_Form___or__]
  unfold b_Form___or__
  rw [rdSs_cons]
  simp_arith []
  refine ⟨.inr 4, tyC_ins hq', true, GG_k44 _, ?_⟩
  simp only [Bool.not_true, Bool.false_eq_true, if_false]
  try dsimp only
  rw [rdSs_cons]
  simp_arith [cMeth, GG_call]
  refine ⟨_, hp, rfl, ?_⟩
  refine Form_parts_ok (n := n + 111) hp ?_
  refine ⟨_, hq', rfl, ?_⟩
  refine Form_parts_ok (n := n + 111) hq' ?_
  refine chained_ok (n := n) hF hG J.val J.h J.gv J.jn (fun _ => ?_) (fun t => (t J.top).elim)
  refine ⟨_, rfl, ?_⟩
  show rdSs (GG (n + 112)) (exN E) (b_Form___or__.drop 2) (endN Q) [some (.ref p), some (.ref q), some (clsT (jFm F G w).cls).d, some (jFm F G w).val.t.d, some (.int (jFm F G w).lev), some (othT (jFm F G w).oth).d] C
  generalize jFm F G w = N at ok sz nk hq
  simp only [b_Form___or__, List.drop]
  rw [rdSs_cons]
  simp_arith [cMake, cMeth, GG_make, GG_call]
  refine make_ok (n := n + 97) (F := N) ok (.inl rfl) fun m hm => ?_
  have hm2 := cup_same (C := C) (a := m) (o := FmO N)
  have s2 := sub_new (o := FmO N) hm
  generalize cup C m (FmO N) = C2 at hm2 s2
  refine ⟨_, hm2, rfl, ?_⟩
  refine Form_normal_ok (n := n + 6) ok sz nk hm2 fun r C3 hr s3 h3 => ?_
  refine ⟨C3, Sub.refl, hq r C3 (s2.trans s3) ?_ h3⟩
  cases e : C r with
  | none => rfl
  | some u => rw [s2 _ _ e] at hr; cases hr
end

/-! k65: _law_flat -/
def lflatB : List CS := match b__law_flat with
  | [_, _, _, _, .forS _ _ _ b, _] => b
  | _ => []
theorem sett_con (a : Bool) (ps : List Cn) : sett (.con a ps) = .con a (flatC a (ps.map sett)) := by
  have e : (a == true) = a := by cases a <;> rfl
  show settledC (.con a ps) true = _
  simp only [settledC, e, settledCs_map]
theorem sett_qu (a : Bool) (t : T) (c : Cn) : sett (.qu a t c) = .qu a t (sett c) := by
  have e : (a == true) = a := by cases a <;> rfl
  show settledC (.qu a t c) true = _
  simp only [settledC, e]
theorem sett_ask (t : T) (w : Bool) : sett (.ask t w) = .ask t w := by
  have e : (w == true) = w := by cases w <;> rfl
  show settledC (.ask t w) true = _
  simp only [settledC, e]
theorem qw_in2 (a : Bool) : (decide (qw a = Str.ofString "any") || decide (qw a = Str.ofString "all")) = true := by cases a <;> decide +kernel
theorem cw_in2 (a : Bool) : (decide (cw a = Str.ofString "any") || decide (cw a = Str.ofString "all")) = false := by cases a <;> decide +kernel
theorem lflat_turn {n : Nat} {ex : Kxs} {Dd : EndsC} {a : Bool} {c : Cn} {acc : List Cn} {C0 C : CH} {p : Addr} {x0 x4 : Option D} (hs : Sub C0 C) (hp : C p = some (.lst (acc.map fun c => c.t.d))) (hl : acc.length + (flat1 a (sett c)).length ≤ sizeLine)
    (walk : ∀ (Q : Kv) (E : Kx), Q (sett c).t.d C → W (n + 1) i__law_flat [c.t.d] C Q E)
    (hD : ∀ q C', Sub C0 C' → C' q = some (.lst ((acc ++ flat1 a (sett c)).map fun c => c.t.d)) → Dd.nx [x0, some (.str (cw a)), some (.ref q), some c.t.d, some (sett c).t.d] C') :
    rdSs (GG (n + 1)) ex lflatB Dd [x0, some (.str (cw a)), some (.ref p), some c.t.d, x4] C := by
  simp only [lflatB, b__law_flat]
  rw [rdSs_cons]
  simp_arith [GG_call]
  refine walk _ _ ?_
  generalize sett c = d at hl hD
  try dsimp only
  rw [rdSs_cons]
  have fin : ∀ (es : List Cn) (y : D), flat1 a d = es → y = d.t.d → ∀ q2, C q2 = none → oAddA (.ref p) (.ref q2) (cup C q2 (.lst (es.map fun c => c.t.d))) fun d' C1 => Dd.nx [x0, some (.str (cw a)), some d', some c.t.d, some y] C1 := by
    intro es y he hy q2 hq2
    subst hy
    refine ⟨_, _, cup_old hq2 hp, cup_same, by rw [List.length_map, List.length_map, ← he]; exact hl, fun q3 hq3 => ?_⟩
    refine hD q3 _ ((hs.trans (sub_new hq2)).trans (sub_new hq3)) ?_
    rw [cup_same, he, List.map_append]
  have ne1 : (Str.ofString "ask" = cw a) = False := by cases a <;> simp [cw] <;> decide
  cases d with
  | ask t w =>
    simp_arith [Cn.t, T.d, T.ds, oEqN_strI so_ask (so_cw a), ne1, decide_false, oLst]
    exact fin [.ask t w] _ rfl rfl
  | con b ps =>
    by_cases hb : b = a
    · subst hb
      simp_arith [Cn.t, T.d, T.ds, oEqN_strI (so_cw b) (so_cw b), decide_true, oList]
      rw [ds_ts]
      have := fin ps (Cn.con b ps).t.d (by simp [flat1]) rfl
      simp only [Cn.t, T.d, T.ds, ds_ts] at this
      exact this
    · have ne2 : (cw b = cw a) = False := by
        cases a <;> cases b <;> simp [cw] at hb ⊢ <;> decide
      simp_arith [Cn.t, T.d, T.ds, oEqN_strI (so_cw b) (so_cw a), ne2, decide_false, oLst]
      exact fin [.con b ps] _ (by simp [flat1, hb]) rfl
  | qu b t k =>
    have ne2 : (qw b = cw a) = False := by cases a <;> cases b <;> simp [cw, qw] <;> decide
    simp_arith [Cn.t, T.d, T.ds, oEqN_strI (so_qw b) (so_cw a), ne2, decide_false, oLst]
    exact fin [.qu b t k] _ rfl rfl
theorem lflat_loop2 {n : Nat} {ex : Kxs} {Dd : EndsC} {a : Bool} {C0 : CH} {x0 : Option D} : ∀ (cs acc : List Cn) (C : CH) (p : Addr) (x3 x4 : Option D), (∀ c ∈ cs, ∀ (C : CH) (Q : Kv) (E : Kx), Q (sett c).t.d C → W (n + 1) i__law_flat [c.t.d] C Q E) → Sub C0 C → C p = some (.lst (acc.map fun c => c.t.d)) → acc.length + (flatC a (cs.map sett)).length ≤ sizeLine →
    (∀ q C' x3 x4, Sub C0 C' → C' q = some (.lst ((acc ++ flatC a (cs.map sett)).map fun c => c.t.d)) → Dd.nx [x0, some (.str (cw a)), some (.ref q), x3, x4] C') →
    forL (hT (.nm 3)) (rdSs (GG (n + 1)) ex lflatB) (fun _ => True) Dd (cs.map fun c => c.t.d) [x0, some (.str (cw a)), some (.ref p), x3, x4] C
  | [], acc, C, p, x3, x4, w, hs, hp, hl, hD => ⟨trivial, hD p C x3 x4 hs (by simpa [flatC] using hp)⟩
  | c :: cs, acc, C, p, x3, x4, w, hs, hp, hl, hD => by
    refine ⟨trivial, _, rfl, ?_⟩
    have ef : flatC a ((c :: cs).map sett) = flat1 a (sett c) ++ flatC a (cs.map sett) := by simp [flatC]
    rw [ef] at hl
    rw [List.length_append] at hl
    refine lflat_turn (n := n) hs hp (by omega) (w c List.mem_cons_self C) fun q C' s' hq' => ?_
    refine lflat_loop2 cs (acc ++ flat1 a (sett c)) C' q _ _ (fun d hd => w d (List.mem_cons_of_mem _ hd)) s' hq' (by rw [List.length_append]; omega) fun q2 C2 y3 y4 s2 h2 => ?_
    refine hD q2 C2 y3 y4 s2 ?_
    rw [ef, ← List.append_assoc]
    exact h2
theorem flat_len_sum (a : Bool) (ps : List Cn) : (flatC a (ps.map sett)).length ≤ csizes ps := by
  have h1 := settleds_size true ps
  have h2 : ∀ cs : List Cn, (flatC a cs).length ≤ csizes cs := by
    intro cs
    induction cs with
    | nil => simp [flatC]
    | cons c cs ih =>
      have : (flat1 a c).length ≤ csize c := by
        cases c with
        | ask t w => simp [flat1, csize]
        | qu b t k => simp only [flat1, csize, List.length_cons, List.length_nil]; omega
        | con b qs =>
          simp only [flat1, csize]
          have := csizes_len qs
          split
          · omega
          · simp
      simp only [flatC, List.flatMap_cons, List.length_append, csizes] at ih ⊢
      omega
  have h3 : ps.map sett = settledCs ps true := (settledCs_map true ps).symm
  rw [h3]
  exact Nat.le_trans (h2 _) h1
theorem lflat_ok : ∀ (h n : Nat) (c : Cn) (C : CH) (Q : Kv) (E : Kx), ht c ≤ h → csize c ≤ 20000 → Q (sett c).t.d C → W (n + h + 1) i__law_flat [c.t.d] C Q E := by
  have hsl : 1000000 ≤ sizeLine := by decide
  intro h
  induction h with
  | zero => intro n c C Q E hh; cases c <;> simp [ht] at hh
  | succ h ih =>
    intro n c C Q E hh hl hq
    rw [W__law_flat]
    unfold b__law_flat
    cases c with
    | ask t w =>
      rw [sett_ask] at hq
      simp_arith! [Cn.t, T.d, T.ds, oEqN_strI so_ask so_ask, decide_true]
      exact ⟨C, Sub.refl, hq⟩
    | qu a t c =>
      rw [sett_qu] at hq
      simp only [ht] at hh
      simp only [csize] at hl
      simp_arith! [Cn.t, T.d, T.ds, oEqN_strI (so_qw a) so_ask, qw_ask, decide_false, qw_in2, GG_call]
      refine ih n c C _ _ (by omega) (by omega) ?_
      exact ⟨C, Sub.refl, hq⟩
    | con a ps =>
      rw [sett_con] at hq
      simp only [ht] at hh
      simp only [csize] at hl
      rw [rdSs_cons]
      simp_arith [Cn.t, T.d, T.ds]
      rw [rdSs_cons]
      simp_arith [oEqN_strI (so_cw a) so_ask, cw_ask, decide_false]
      rw [rdSs_cons]
      simp_arith [cw_in2]
      rw [rdSs_cons]
      simp_arith [oLst]
      intro p hp
      try dsimp only
      rw [rdSs_cons]
      simp_arith [sFor, iSeq]
      rw [ds_ts]
      have hcl := csizes_len ps
      refine lflat_loop2 (n := n + h) (C0 := C) ps [] _ p none none (fun c hc C1 Q1 E1 hQ1 => ?_) (sub_new hp) cup_same ?_ fun q C2 y3 y4 s2 h2 => ?_
      · have := hts_mem hc
        have := csizes_mem hc
        exact ih n c C1 Q1 E1 (by omega) (by omega) hQ1
      · have := flat_len_sum a ps
        simp only [List.length_nil]
        omega
      try dsimp only
      rw [rdSs_cons]
      simp_arith [oTuple]
      refine ⟨_, h2, C, s2, ?_⟩
      simpa [Cn.t, T.d, T.ds, T.ds_map, Cn.ts_map, List.map_map, Function.comp_def] using hq

/-! k65: _law_merged -/
def mergedB : List CS := match b__law_merged with
  | [_, .forS _ _ _ b, _] => b
  | _ => []
structure OkM (b : Nat) (k : Cn) : Prop where
  tame : TameC k
  st : sett k = k
  ht : ht k ≤ b
  sz : csize k ≤ 501 * b
structure OkR (k : Cn) : Prop where
  tame : TameC (sett k)
  ht : ht k ≤ 20
  sz : csize k ≤ 500
  ht2 : My.ht (sett k) ≤ 20
  sz2 : csize (sett k) ≤ 500
theorem jhts_app : ∀ xs ys : List Cn, hts (xs ++ ys) = max (hts xs) (hts ys)
  | [], ys => by simp [hts]
  | x :: xs, ys => by simp only [List.cons_append, hts, jhts_app xs ys]; omega
theorem jcsizes_app : ∀ xs ys : List Cn, csizes (xs ++ ys) = csizes xs + csizes ys
  | [], ys => by simp [csizes]
  | x :: xs, ys => by simp only [List.cons_append, csizes, jcsizes_app xs ys]; omega
theorem jflat1_ht (a : Bool) (c : Cn) : hts (flat1 a c) ≤ ht c ∧ csizes (flat1 a c) ≤ csize c := by
  cases c with
  | ask t w => exact ⟨by simp [flat1, hts], by simp [flat1, csizes]⟩
  | qu b t k => exact ⟨by simp [flat1, hts], by simp [flat1, csizes]⟩
  | con b qs =>
    by_cases h : b = a
    · simp only [flat1, h, if_true, ht, csize]; omega
    · simp only [flat1, h, if_false, hts, csizes]; omega
theorem join_nums (c k : Cn) : ht (.con true (flatC true [c, k])) ≤ 1 + max (ht c) (ht k) ∧ csize (.con true (flatC true [c, k])) ≤ 1 + csize c + csize k := by
  have h1 := jflat1_ht true c
  have h2 := jflat1_ht true k
  have e : flatC true [c, k] = flat1 true c ++ flat1 true k := by simp [flatC]
  simp only [ht, csize, e, jhts_app, jcsizes_app]
  omega
theorem push_ok {n : Nat} {ex : Kxs} {Dd : EndsC} {acc : List Cl} {j : Cn} {l : Int} {C0 C : CH} {p : Addr} {x0 : Option D} (hh : ht j ≤ 39) (hz : csize j ≤ 20000) (hl : acc.length ≤ 100) (h0 : C0 p = none) (hs : Sub C0 C) (hp : C p = some (.lst (acc.map clD)))
    (hD : ∀ C', Sub C0 C' → C' p = some (.lst ((acc ++ [Cl.cif (sett j) l]).map clD)) → Dd.nx [x0, some (.ref p), some (.str "if"), some j.t.d, some (.int l)] C') :
    rdSs (GG (n + 40)) ex [.expr (.mt .append (.var 1) [.tup [.var 2, .call i__law_flat 1 1 0 [.pos 0] [.var 3] [], .var 4]])] Dd [x0, some (.ref p), some (.str "if"), some j.t.d, some (.int l)] C := by
  have hsl : 1000000 ≤ sizeLine := by decide
  rw [rdSs_cons]
  simp_arith [GG_call]
  refine ⟨isLst_of hp, ?_⟩
  refine lflat_ok 39 n j C _ _ hh hz ?_
  refine ⟨p, _, _, rfl, rfl, hp, by rw [List.length_map]; omega, ?_⟩
  refine hD _ (sub_at h0 hs) ?_
  rw [cup_same, List.map_append]
  rfl
theorem merged_turn {n b : Nat} {ex : Kxs} {Dd : EndsC} {acc : List Cl} {k : Cn} {l : Int} {C0 C : CH} {p : Addr} {x0 : Option D} (hb : b ≤ 30) (b20 : 20 ≤ b) (hk : OkR k) (ha : ∀ a ∈ acc, ∃ c m, a = Cl.cif c m ∧ OkM b c) (hl : acc.length ≤ 100) (h0 : C0 p = none) (hs : Sub C0 C) (hp : C p = some (.lst (acc.map clD)))
    (hD : ∀ C' x2 x3 x4, Sub C0 C' → C' p = some (.lst ((stepM acc (.cif (sett k) l)).map clD)) → (∀ a ∈ stepM acc (.cif (sett k) l), ∃ c m, a = Cl.cif c m ∧ OkM (b + 1) c) → Dd.nx [x0, some (.ref p), x2, x3, x4] C') :
    rdSs (GG (n + 40)) ex mergedB Dd [x0, some (.ref p), some (.str "if"), some k.t.d, some (.int l)] C := by
  have hsl : 1000000 ≤ sizeLine := by decide
  simp only [mergedB, b__law_merged]
  rw [rdSs_cons]
  simp_arith [oLst]
  intro r hr
  have e1 : acc.map clD = T.ds (acc.map Cl.t) := by rw [T.ds_map, List.map_map]; rfl
  rw [e1] at hp
  refine ts_ne (ts := acc.map Cl.t) (fun t h => ?_) (cup_old hr hp) cup_same ?_
  · obtain ⟨a, ha', rfl⟩ := List.mem_map.mp h
    obtain ⟨c, m, rfl, o⟩ := ha a ha'
    obtain ⟨k1, k2⟩ := tameCl_ok (c := .cif c m) o.tame
    exact ⟨k1, by omega⟩
  rw [← e1] at hp
  have s1 := hs.trans (sub_new (o := .lst []) hr)
  have hc1 := cup_old (u := .lst []) hr hp
  generalize cup C r (.lst []) = C1 at s1 hc1
  rcases List.eq_nil_or_concat acc with e | ⟨pre, a, e⟩
  · subst e
    simp_arith [List.isEmpty, List.map_nil]
    refine push_ok (n := n) (C0 := C0) (by have := hk.ht; omega) (by have := hk.sz; omega) (by simp) h0 s1 hc1 fun C' s' hc' => ?_
    refine hD C' _ _ _ s' hc' fun x hx => ?_
    rw [show x = Cl.cif (sett k) l from by simpa [stepM] using hx]
    exact ⟨_, _, rfl, hk.tame, sett_sett k, by have := hk.ht2; omega, by have := hk.sz2; omega⟩
  rw [List.concat_eq_append] at e
  subst e
  have ne : ((pre ++ [a]).map Cl.t).isEmpty = false := by simp
  rw [ne]
  obtain ⟨c, m, rfl, oc⟩ := ha a (by simp)
  have la : L2.atI ((pre ++ [Cl.cif c m]).map clD) (-1) = some (clD (.cif c m)) := by rw [List.map_append]; exact atI_snoc
  simp_arith []
  refine oIxA_lst hc1 la ?_
  simp_arith [clD, Cl.t, T.d, T.ds]
  by_cases hml : m = l
  · subst hml
    rw [if_pos (decide_eq_true rfl)]
    rw [rdSs_cons]
    simp_arith [GG_call]
    refine ⟨isLst_of hc1, ?_⟩
    refine ⟨p, _, clD (.cif c m), rfl, rfl, hc1, by simp, ?_⟩
    have ed : ((pre ++ [Cl.cif c m]).map clD).dropLast = pre.map clD := by simp
    rw [ed]
    have hp2 : cup C1 p (.lst (pre.map clD)) p = some (.lst (pre.map clD)) := cup_same
    have s2 := sub_at (o := .lst (pre.map clD)) h0 s1
    generalize cup C1 p (.lst (pre.map clD)) = C2 at hp2 s2
    refine ⟨_, _, rfl, atI_one, ?_⟩
    have hj := join_nums c k
    have hcon : ht (Cn.con true [c, k]) ≤ 39 ∧ csize (Cn.con true [c, k]) ≤ 20000 := by
      have := oc.ht; have := hk.ht; have := oc.sz; have := hk.sz
      simp only [ht, hts, csize, csizes]
      omega
    have ej : sett (Cn.con true [c, k]) = .con true (flatC true [c, sett k]) := by
      rw [sett_con]
      simp only [List.map_cons, List.map_nil, oc.st]
    have walk := lflat_ok 39 n (Cn.con true [c, k]) C2
    rw [ej] at walk
    have ec : (Cn.con true [c, k]).t.d = D.tup [.str "and", .tup [c.t.d, k.t.d]] := rfl
    rw [ec] at walk
    refine walk _ _ hcon.1 hcon.2 ?_
    have jn := join_nums c (sett k)
    have em : stepM (pre ++ [Cl.cif c m]) (Cl.cif (sett k) m) = pre ++ [Cl.cif (.con true (flatC true [c, sett k])) m] := by
      rw [stepM_snoc]; simp only [joined, if_true]
    have sj : sett (.con true (flatC true [c, sett k])) = .con true (flatC true [c, sett k]) := sett_join oc.st (sett_sett k)
    refine push_ok (n := n) (C0 := C0) (acc := pre) ?_ ?_ (by simp at hl; omega) h0 s2 hp2 fun C' s' hc' => ?_
    · have := oc.ht; have := hk.ht2; omega
    · have := oc.sz; have := hk.sz2; omega
    rw [sj] at hc'
    rw [em] at hD
    refine hD C' _ _ _ s' hc' fun x hx => ?_
    rcases List.mem_append.mp hx with hx | hx
    · obtain ⟨d, q, e, o⟩ := ha x (List.mem_append_left _ hx)
      exact ⟨d, q, e, o.tame, o.st, by have := o.ht; omega, by have := o.sz; omega⟩
    · rw [List.mem_singleton.mp hx]
      exact ⟨_, _, rfl, tame_join oc.tame hk.tame, sj, by have := oc.ht; have := hk.ht2; omega, by have := oc.sz; have := hk.sz2; omega⟩
  · rw [if_neg (by simp [hml])]
    have em : stepM (pre ++ [Cl.cif c m]) (Cl.cif (sett k) l) = (pre ++ [Cl.cif c m]) ++ [Cl.cif (sett k) l] := by
      rw [stepM_snoc]; simp only [joined, hml, if_false]
    refine push_ok (n := n) (C0 := C0) (by have := hk.ht; omega) (by have := hk.sz; omega) hl h0 s1 hc1 fun C' s' hc' => ?_
    rw [em] at hD
    refine hD C' _ _ _ s' hc' fun x hx => ?_
    rcases List.mem_append.mp hx with hx | hx
    · obtain ⟨d, q, e, o⟩ := ha x hx
      exact ⟨d, q, e, o.tame, o.st, by have := o.ht; omega, by have := o.sz; omega⟩
    · rw [List.mem_singleton.mp hx]
      exact ⟨_, _, rfl, hk.tame, sett_sett k, by have := hk.ht2; omega, by have := hk.sz2; omega⟩
theorem merged_loop {n : Nat} {ex : Kxs} {Dd : EndsC} {C0 : CH} {p : Addr} {x0 : Option D} {Gd : CH → Prop} (hG : ∀ C', Sub C0 C' → Gd C') (h0 : C0 p = none) : ∀ (cs : List (Cn × Int)) (acc : List Cl) (b : Nat) (C : CH) (x2 x3 x4 : Option D), b + cs.length ≤ 30 → 20 ≤ b → (∀ q ∈ cs, OkR q.1) → (∀ a ∈ acc, ∃ c m, a = Cl.cif c m ∧ OkM b c) → acc.length + cs.length ≤ 100 → Sub C0 C → C p = some (.lst (acc.map clD)) →
    (∀ C' x2 x3 x4, Sub C0 C' → C' p = some (.lst (((cs.map fun q => Cl.cif (sett q.1) q.2).foldl stepM acc).map clD)) → Dd.nx [x0, some (.ref p), x2, x3, x4] C') →
    forL (hT (.tp [2, 3, 4])) (rdSs (GG (n + 40)) ex mergedB) Gd Dd (cs.map fun q => clD (.cif q.1 q.2)) [x0, some (.ref p), x2, x3, x4] C
  | [], acc, b, C, x2, x3, x4, hb, b20, hk, ha, hl, hs, hp, hD => ⟨hG C hs, hD C x2 x3 x4 hs hp⟩
  | q :: cs, acc, b, C, x2, x3, x4, hb, b20, hk, ha, hl, hs, hp, hD => by
    simp only [List.length_cons] at hb hl
    refine ⟨hG C hs, _, rfl, ?_⟩
    refine merged_turn (n := n) (b := b) (C0 := C0) (l := q.2) (by omega) b20 (hk q List.mem_cons_self) ha (by omega) h0 hs hp fun C' y2 y3 y4 s' hc' ha' => ?_
    refine merged_loop hG h0 cs _ (b + 1) C' _ _ _ (by omega) (by omega) (fun r hr => hk r (List.mem_cons_of_mem _ hr)) ha' ?_ s' hc' hD
    have : (stepM acc (Cl.cif (sett q.1) q.2)).length ≤ acc.length + 1 := by
      rcases List.eq_nil_or_concat acc with e | ⟨pre, a, e⟩
      · subst e; simp [stepM]
      · rw [List.concat_eq_append] at e
        subst e
        rw [stepM_snoc]
        cases joined a (Cl.cif (sett q.1) q.2) <;> simp
    omega
/-- the drawn clauses, joined -/
def qsCl (cs : List (Cn × Int)) : List Cl := cs.map fun q => Cl.cif q.1 q.2
theorem merged_ok {n : Nat} {cs : List (Cn × Int)} {C : CH} {p : Addr} {Q : Kv} {E : Kx} (hk : ∀ q ∈ cs, OkR q.1) (hl : cs.length ≤ 10) (hp : C p = some (.lst ((qsCl cs).map clD))) (hq : Q (clsT (mergeCls (cs.map fun q => Cl.cif (sett q.1) q.2))).d C) : W (n + 41) i__law_merged [.ref p] C Q E := by
  rw [W__law_merged]
  unfold b__law_merged
  rw [rdSs_cons]
  simp_arith [oLst]
  intro r hr
  try dsimp only
  rw [rdSs_cons]
  have hp1 := cup_old (u := .lst []) hr hp
  simp_arith [sFor, iSeq, hp1]
  have e : (qsCl cs).map clD = cs.map fun q => clD (.cif q.1 q.2) := by simp [qsCl]
  rw [e]
  rw [e] at hp
  refine merged_loop (n := n) (C0 := C) (fun C' s => s _ _ hp) hr cs [] 20 _ none none none (by omega) (by omega) hk (fun _ z => nomatch z) (by simp; omega) (sub_new hr) cup_same fun C' y2 y3 y4 s' hc' => ?_
  rw [fold_merge] at hc'
  try dsimp only
  rw [rdSs_cons]
  simp_arith [oTuple]
  refine ⟨_, hc', C, s', ?_⟩
  rw [clsT_d] at hq
  exact hq

/-! the normal clauses of a form whose conditions are not too great are those of a form -/
theorem flat1_ht (a : Bool) (c : Cn) : hts (flat1 a c) ≤ ht c := by
  cases c with
  | con b qs => by_cases h : b = a <;> simp [flat1, h, ht, hts]
  | ask t w => simp [flat1, hts]
  | qu b t c => simp [flat1, hts]
theorem ht_flat1 (a : Bool) (c : Cn) : ht c ≤ 1 + hts (flat1 a c) := by
  cases c with
  | con b qs => by_cases h : b = a <;> simp [flat1, h, ht, hts]
  | ask t w => simp [flat1, hts]
  | qu b t c => simp [flat1, hts]
theorem flatC_ht (a : Bool) : ∀ ps : List Cn, hts (flatC a ps) ≤ hts ps
  | [] => Nat.le_refl _
  | p :: ps => by
    have ih := flatC_ht a ps
    have e : flatC a (p :: ps) = flat1 a p ++ flatC a ps := by simp [flatC]
    rw [e, hts_append]
    have := flat1_ht a p
    simp only [hts]; omega
mutual
theorem settled_ht (b : Bool) : ∀ c : Cn, ht (settledC c b) ≤ ht c
  | .ask t w => Nat.le_refl _
  | .con a ps => by
    have h1 := settleds_ht b ps
    have h2 := flatC_ht (a == b) (settledCs ps b)
    simp only [settledC, ht]; omega
  | .qu a t c => by
    have h1 := settled_ht b c
    simp only [settledC, ht]; omega
theorem settleds_ht (b : Bool) : ∀ cs : List Cn, hts (settledCs cs b) ≤ hts cs
  | [] => Nat.le_refl _
  | c :: cs => by
    have h1 := settled_ht b c
    have h2 := settleds_ht b cs
    simp only [settledCs, hts]; omega
end
def htF (h : Nat) : Cl → Prop
  | .cif k _ => hts (flat1 true k) ≤ h
  | .frm k => hts (flat1 true k) ≤ h
  | _ => True
theorem onceC_htF {h : Nat} {at_ low : Int} {c : Cl} (k : htCl h c) : htF h (onceC at_ low c).1 := by
  have key : ∀ x : Cn, ht x ≤ h → hts (flat1 true (sett x)) ≤ h := fun x hx => by
    have h1 := settled_ht true x
    have h2 := flat1_ht true (sett x)
    exact Nat.le_trans h2 (Nat.le_trans h1 hx)
  cases c with
  | call v => exact trivial
  | cfor v o => exact trivial
  | cif x l => exact key x k.ht
  | frm x =>
    simp only [onceC]
    split
    · exact key x k.ht
    · exact key x k.ht
theorem onceF_htF {h : Nat} : ∀ {cs : List Cl} {lv low : Int}, (∀ c ∈ cs, htCl h c) → ∀ c ∈ (onceF cs lv low).1, htF h c
  | [], _, _, _, c, hc => nomatch hc
  | d :: cs, lv, low, hh, c, hc => by
    simp only [onceF] at hc
    rcases List.mem_cons.mp hc with e | hc
    · rw [e]; exact onceC_htF (hh d List.mem_cons_self)
    · exact onceF_htF (fun x hx => hh x (List.mem_cons_of_mem _ hx)) c hc
theorem joined_htF {h : Nat} {c d e : Cl} (j : joined c d = some e) (hc : htF h c) (hd : htF h d) : htF h e := by
  obtain ⟨a, b, l, rfl, rfl, rfl⟩ := joined_some j
  have e : flat1 true (.con true (flatC true [a, b])) = flat1 true a ++ flat1 true b := by simp [flat1, flatC]
  show hts (flat1 true (.con true (flatC true [a, b]))) ≤ h
  rw [e, hts_append]
  exact Nat.max_le.mpr ⟨hc, hd⟩
theorem mrg_htF {h : Nat} : ∀ {r : List Cl} {c : Cl}, (∀ x ∈ c :: r, htF h x) → ∀ x ∈ mrg c r, htF h x
  | [], c, hh, x, hx => hh x hx
  | d :: r, c, hh, x, hx => by
    have hc := hh c List.mem_cons_self
    have hd := hh d (by simp)
    simp only [mrg] at hx
    cases j : joined c d with
    | none =>
      rw [j] at hx
      rcases List.mem_cons.mp hx with e | hx
      · rw [e]; exact hc
      · exact mrg_htF (fun y hy => hh y (List.mem_cons_of_mem _ hy)) x hx
    | some e =>
      rw [j] at hx
      refine mrg_htF (fun y hy => ?_) x hx
      rcases List.mem_cons.mp hy with z | hy
      · rw [z]; exact joined_htF j hc hd
      · exact hh y (by simp [hy])
theorem mrg_size : ∀ (r : List Cl) (c : Cl), sizeL (mrg c r) ≤ sizeL (c :: r)
  | [], c => Nat.le_refl _
  | d :: r, c => by
    simp only [mrg]
    cases j : joined c d with
    | none => have := mrg_size r d; simp only [sizeL_cons] at *; omega
    | some e =>
      obtain ⟨a, b, l, rfl, rfl, rfl⟩ := joined_some j
      have h1 := mrg_size r (.cif (.con true (flatC true [a, b])) l)
      have h2 := join_size (a := a) (b := b) (l := l)
      simp only [sizeL_cons] at *
      omega
theorem norm_size (cs : List Cl) (lev : Int) : sizeL (normCls cs lev) ≤ sizeL cs := by
  have h1 := onceF_size cs 1 (low0 lev)
  unfold normCls
  cases e : (onceF cs 1 (low0 lev)).1 with
  | nil => simp [mergeCls, sizeL]
  | cons c r =>
    rw [e] at h1
    exact Nat.le_trans (mrg_size r c) h1
theorem mem_size {c : Cl} : ∀ {cs : List Cl}, c ∈ cs → sizeCl c ≤ sizeL cs ∧ askCl c ≤ asksL cs
  | d :: cs, h => by
    simp only [sizeL_cons, asksL]
    rcases List.mem_cons.mp h with e | h
    · rw [e]; omega
    · have := mem_size h; omega
theorem norm_okCl {cs : List Cl} {lev : Int} {vs : List T} (h : strCls cs 1 vs) (hh : ∀ c ∈ cs, htCl 99 c) (hs : sizeL cs ≤ 10000) (ha : asksL cs ≤ 400) : ∀ c ∈ normCls cs lev, okCl c := by
  intro c hc
  have hF : htF 99 c := by
    unfold normCls at hc
    have h1 := onceF_htF (lv := 1) (low := low0 lev) hh
    cases e : (onceF cs 1 (low0 lev)).1 with
    | nil => rw [e] at hc; cases hc
    | cons d r => rw [e] at hc h1; exact mrg_htF h1 c hc
  have h2 := norm_size cs lev
  have h3 := norm_asks (lev := lev) h
  obtain ⟨m1, m2⟩ := mem_size hc
  cases c with
  | call v => exact trivial
  | cfor v o => exact trivial
  | cif k l =>
    have := ht_flat1 true k
    simp only [htF, sizeCl, askCl] at hF m1 m2
    exact ⟨by omega, by omega, by omega⟩
  | frm k =>
    have := ht_flat1 true k
    simp only [htF, sizeCl, askCl] at hF m1 m2
    exact ⟨by omega, by omega, by omega⟩
theorem normFm_size {F : Fm} (z : FmSize F) : FmSize (normFm F) := Nat.le_trans (norm_size F.cls F.lev) z

/-! k65: joining filters, in plain Lean -/
def settCl : Cl → Cl
  | .cif c l => .cif (sett c) l
  | c => c
def isIfC (c : Cl) : Prop := ∃ k l, c = Cl.cif k l
/-- ifs whose conditions are settled -/
def isSt (c : Cl) : Prop := ∃ k l, c = Cl.cif k l ∧ sett k = k
theorem onceF_ifs : ∀ (X : List Cl) (lv low : Int), (∀ c ∈ X, isIfC c) → (onceF X lv low).1 = X.map settCl
  | [], _, _, _ => rfl
  | c :: X, lv, low, h => by
    obtain ⟨k, l, rfl⟩ := h c List.mem_cons_self
    have ih := onceF_ifs X (nextL lv (.cif k l)) low fun d hd => h d (List.mem_cons_of_mem _ hd)
    simp only [onceF, List.map_cons, ih]
    rfl
theorem joined_st {c d e : Cl} (hc : isSt c) (hd : isSt d) (j : joined c d = some e) : isSt e := by
  obtain ⟨k, l, rfl, hk⟩ := hc
  obtain ⟨k2, m, rfl, hk2⟩ := hd
  simp only [joined] at j
  split at j
  · cases j; exact ⟨_, _, rfl, sett_join hk hk2⟩
  · cases j
theorem mrg_st : ∀ (r : List Cl) (c : Cl), isSt c → (∀ d ∈ r, isSt d) → ∀ e ∈ mrg c r, isSt e
  | [], c, hc, _, e, he => by rw [List.mem_singleton.mp he]; exact hc
  | d :: r, c, hc, hr, e, he => by
    simp only [mrg] at he
    cases j : joined c d with
    | some x =>
      rw [j] at he
      exact mrg_st r x (joined_st hc (hr d List.mem_cons_self) j) (fun y hy => hr y (List.mem_cons_of_mem _ hy)) e he
    | none =>
      rw [j] at he
      rcases List.mem_cons.mp he with h | h
      · rw [h]; exact hc
      · exact mrg_st r d (hr d List.mem_cons_self) (fun y hy => hr y (List.mem_cons_of_mem _ hy)) e h
theorem merge_st {X : List Cl} (h : ∀ c ∈ X, isSt c) : ∀ c ∈ mergeCls X, isSt c := by
  cases X with
  | nil => intro c hc; cases hc
  | cons c r => exact mrg_st r c (h c List.mem_cons_self) fun d hd => h d (List.mem_cons_of_mem _ hd)
theorem st_map {X : List Cl} (h : ∀ c ∈ X, isSt c) : X.map settCl = X := by
  induction X with
  | nil => rfl
  | cons c X ih =>
    obtain ⟨k, l, rfl, hk⟩ := h c List.mem_cons_self
    rw [List.map_cons, ih fun d hd => h d (List.mem_cons_of_mem _ hd)]
    simp only [settCl, hk]
/-- joining is associative -/
theorem join_assoc {c d e x y : Cl} (h1 : joined c d = some y) (h2 : joined d e = some x) : joined c x = joined y e := by
  obtain ⟨a, b, l, rfl, rfl, rfl⟩ := joined_some h1
  obtain ⟨b2, e2, m, e3, rfl, rfl⟩ := joined_some h2
  cases e3
  simp only [joined, if_true]
  simp [flatC, flat1]
theorem join_none {c d e x : Cl} (h1 : joined c d = none) (h2 : joined d e = some x) : joined c x = none := by
  obtain ⟨b, e2, m, rfl, rfl, rfl⟩ := joined_some h2
  cases c with
  | cif a l =>
    simp only [joined] at h1 ⊢
    split at h1
    · cases h1
    · rename_i h; rw [if_neg h]
  | call v => rfl
  | frm k => rfl
  | cfor v o => rfl
theorem mrg_mrg : ∀ (r : List Cl) (c d : Cl), mrg c (mrg d r) = mrg c (d :: r)
  | [], c, d => rfl
  | e :: r, c, d => by
    have hd : mrg d (e :: r) = match joined d e with
      | some x => mrg x r
      | none => d :: mrg e r := rfl
    have hc : ∀ L, mrg c (d :: L) = match joined c d with
      | some y => mrg y L
      | none => c :: mrg d L := fun _ => rfl
    have hx : ∀ (y : Cl) L, mrg y (e :: L) = match joined y e with
      | some z => mrg z L
      | none => y :: mrg e L := fun _ _ => rfl
    rw [hd]
    cases j2 : joined d e with
    | some x =>
      simp only
      rw [mrg_mrg r c x, hc]
      cases j1 : joined c d with
      | some y =>
        simp only
        have := join_assoc j1 j2
        have h3 : mrg c (x :: r) = match joined c x with
          | some z => mrg z r
          | none => c :: mrg x r := rfl
        rw [h3, hx, this]
        cases j3 : joined y e with
        | some z => rfl
        | none =>
          obtain ⟨a, b, l, rfl, rfl, rfl⟩ := joined_some j1
          obtain ⟨b2, e2, m, e3, rfl, rfl⟩ := joined_some j2
          cases e3
          simp [joined] at j3
      | none =>
        simp only
        have h3 : mrg c (x :: r) = match joined c x with
          | some z => mrg z r
          | none => c :: mrg x r := rfl
        rw [h3, join_none j1 j2, hd, j2]
    | none =>
      simp only
      rw [hc, hc]
      cases j1 : joined c d with
      | some y => exact mrg_mrg r y e
      | none =>
        simp only
        rw [mrg_mrg r d e]
theorem merge_cons (c : Cl) (L : List Cl) : mergeCls (c :: L) = mrg c (mergeCls L) := by
  cases L with
  | nil => rfl
  | cons d r => exact (mrg_mrg r c d).symm
theorem merge_r : ∀ (X Y : List Cl), mergeCls (X ++ mergeCls Y) = mergeCls (X ++ Y)
  | [], Y => by
    have : Sep (mergeCls Y) := by
      cases Y with
      | nil => trivial
      | cons c r => exact mrg_sep r c
    exact merge_sep this
  | x :: X, Y => by
    rw [List.cons_append, List.cons_append, merge_cons, merge_cons, merge_r X Y]
theorem merge_l (X Y : List Cl) : mergeCls (mergeCls X ++ Y) = mergeCls (X ++ Y) := by
  have e : mergeCls (mergeCls X) = mergeCls X := by have := merge_r [] X; simpa using this
  rw [← fold_merge (mergeCls X ++ Y), ← fold_merge (X ++ Y), List.foldl_append, List.foldl_append, fold_merge, fold_merge, e]
def qsS (cs : List (Cn × Int)) : List Cl := cs.map fun q => Cl.cif (sett q.1) q.2
def nq (cs : List (Cn × Int)) : List Cl := mergeCls (qsS cs)
theorem qs_ifs (cs : List (Cn × Int)) : ∀ c ∈ qsCl cs, isIfC c := fun c hc => by obtain ⟨q, _, rfl⟩ := List.mem_map.mp hc; exact ⟨_, _, rfl⟩
theorem qsS_st (cs : List (Cn × Int)) : ∀ c ∈ qsS cs, isSt c := fun c hc => by obtain ⟨q, _, rfl⟩ := List.mem_map.mp hc; exact ⟨_, _, rfl, sett_sett _⟩
theorem nq_st (cs : List (Cn × Int)) : ∀ c ∈ nq cs, isSt c := merge_st (qsS_st cs)
theorem st_if {X : List Cl} (h : ∀ c ∈ X, isSt c) : ∀ c ∈ X, isIfC c := fun c hc => by obtain ⟨k, l, e, _⟩ := h c hc; exact ⟨k, l, e⟩
theorem qs_map (cs : List (Cn × Int)) : (qsCl cs).map settCl = qsS cs := by simp [qsCl, qsS, settCl]
/-- a form of these clauses, as drawn or normal -/
def Fil (cs : List (Cn × Int)) (a : List Cl) : Prop := a = qsCl cs ∨ a = nq cs
theorem Fil.ifs {cs : List (Cn × Int)} {a : List Cl} (h : Fil cs a) : ∀ c ∈ a, isIfC c := by
  rcases h with rfl | rfl
  · exact qs_ifs cs
  · exact st_if (nq_st cs)
theorem norm_two {ca cb : List (Cn × Int)} {a b : List Cl} {lev : Int} (ha : Fil ca a) (hb : Fil cb b) : normCls (a ++ b) lev = nq (ca ++ cb) := by
  unfold normCls
  rw [onceF_ifs _ _ _ (fun c hc => (List.mem_append.mp hc).elim (ha.ifs c) (hb.ifs c)), List.map_append]
  have e : qsS (ca ++ cb) = qsS ca ++ qsS cb := by simp [qsS]
  have ea : ∀ {cs : List (Cn × Int)} {x : List Cl}, Fil cs x → ∀ Y, mergeCls (x.map settCl ++ Y) = mergeCls (qsS cs ++ Y) ∧ mergeCls (Y ++ x.map settCl) = mergeCls (Y ++ qsS cs) := by
    intro cs x hx Y
    rcases hx with rfl | rfl
    · rw [qs_map]; exact ⟨rfl, rfl⟩
    · rw [st_map (nq_st cs)]; exact ⟨merge_l _ _, merge_r _ _⟩
  rw [(ea ha _).1, (ea hb _).2, nq, e]
theorem norm_one {cs : List (Cn × Int)} {a : List Cl} {lev : Int} (h : Fil cs a) : normCls a lev = nq cs := by
  have := norm_two (lev := lev) h (.inl rfl : Fil [] (qsCl []))
  simpa [qsCl] using this
/-! the forms -/
def jF (a : List Cl) : Fm := ⟨a, .val (.item 1), 1, none⟩
structure RawQ (q : Cn × Int) : Prop where
  fit : fitC q.1 1 (.lst [])
  ht : ht q.1 ≤ 10
  sz : csize q.1 ≤ 8
  ask : asks q.1 ≤ 10
  lev : q.2 = 0 ∨ q.2 = 1
theorem RawQ.r {q : Cn × Int} (h : RawQ q) : OkR q.1 := by
  obtain ⟨f1, _, f3⟩ := fit_settled true q.1 1 _ h.fit
  have f3 : My.ht (sett q.1) ≤ My.ht q.1 := f3
  have hh := h.ht
  have hz := h.sz
  have hs := sett_size q.1
  exact ⟨tame_of f1 (by show My.ht (sett q.1) ≤ 100; omega), by omega, by omega, by omega, by omega⟩
theorem fitCls_app : ∀ (a b : List Cl) (lv : Int) (vs : List T), fitCls a lv vs → fitCls b (endL a lv) (endV a vs) → fitCls (a ++ b) lv vs
  | [], _, _, _, _, h => h
  | c :: a, b, lv, vs, h, k => ⟨h.1, fitCls_app a b _ _ h.2 k⟩
theorem ifs_end : ∀ (a : List Cl) (lv : Int) (vs : List T), (∀ c ∈ a, isIfC c) → endL a lv = lv ∧ endV a vs = vs
  | [], _, _, _ => ⟨rfl, rfl⟩
  | c :: a, lv, vs, h => by
    obtain ⟨k, l, rfl⟩ := h c List.mem_cons_self
    exact ifs_end a lv vs fun d hd => h d (List.mem_cons_of_mem _ hd)
theorem asksL_two (a b : List Cl) : asksL (a ++ b) = asksL a + asksL b := by
  induction a with
  | nil => simp [asksL]
  | cons c a ih => simp only [List.cons_append, asksL, ih]; omega
structure FilOk (a : List Cl) (m : Nat) : Prop where
  ifs : ∀ c ∈ a, isIfC c
  fit : fitCls a 1 []
  ask : asksL a ≤ 10 * m
  len : a.length ≤ m
  sz : sizeL a ≤ 10 * m
theorem raw_ok : ∀ {cs : List (Cn × Int)}, (∀ q ∈ cs, RawQ q) → FilOk (qsCl cs) cs.length
  | [], _ => ⟨(fun _ h => nomatch h), trivial, Nat.zero_le _, Nat.zero_le _, Nat.zero_le _⟩
  | q :: cs, h => by
    have ih := raw_ok (cs := cs) fun d hd => h d (List.mem_cons_of_mem _ hd)
    have hq := h q List.mem_cons_self
    have h1 := hq.ht
    have h2 := hq.sz
    have h3 := hq.ask
    have l0 : 0 ≤ q.2 ∧ q.2 ≤ 1 := by rcases hq.lev with e | e <;> rw [e] <;> decide
    refine ⟨qs_ifs _, ⟨⟨hq.fit, ⟨by omega, by omega, by omega⟩, l0.1, l0.2⟩, ih.fit⟩, ?_, ?_, ?_⟩
    · have := ih.ask
      simp only [qsCl, List.map_cons, asksL, askCl, List.length_cons] at this ⊢
      omega
    · have := ih.len
      simp only [qsCl, List.map_cons, List.length_cons] at this ⊢
      omega
    · have := ih.sz
      simp only [qsCl, List.map_cons, sizeL_cons, sizeCl, List.length_cons] at this ⊢
      omega
theorem raw_ht {cs : List (Cn × Int)} (h : ∀ q ∈ cs, RawQ q) : ∀ c ∈ qsCl cs, htCl 99 c := fun c hc => by
  obtain ⟨q, hq, rfl⟩ := List.mem_map.mp hc
  have h1 := (h q hq).ht
  have h2 := (h q hq).sz
  exact ⟨by show My.ht q.1 ≤ 99; omega, by show csize q.1 ≤ _; omega⟩
theorem nq_norm (cs : List (Cn × Int)) (lev : Int) : normCls (qsCl cs) lev = nq cs := norm_one (.inl rfl)
theorem nq_ok {cs : List (Cn × Int)} (h : ∀ q ∈ cs, RawQ q) (hl : cs.length ≤ 10) : FilOk (nq cs) cs.length := by
  have r := raw_ok h
  have st := (fitCls_str r.fit)
  have hz := r.sz
  have ha := r.ask
  have ok := norm_okCl (lev := 1) st.1 (raw_ht h) (by omega) (by omega)
  have n1 := norm_str (lev := 1) st.1
  rw [nq_norm] at ok n1
  have e1 := norm_asks (lev := 1) st.1
  have e2 := norm_len (qsCl cs) 1
  have e3 := norm_size (qsCl cs) 1
  rw [nq_norm] at e1 e2 e3
  refine ⟨st_if (nq_st cs), fitCls_of n1 ok, by omega, Nat.le_trans e2 r.len, Nat.le_trans e3 r.sz⟩
theorem fil_ok {cs : List (Cn × Int)} {a : List Cl} (h : ∀ q ∈ cs, RawQ q) (hl : cs.length ≤ 10) (hf : Fil cs a) : FilOk a cs.length := by
  rcases hf with rfl | rfl
  · exact raw_ok h
  · exact nq_ok h hl
theorem FilOk.app {a b : List Cl} {m k : Nat} (h : FilOk a m) (g : FilOk b k) : FilOk (a ++ b) (m + k) := by
  have h1 := h.ask; have h2 := g.ask; have h3 := h.len; have h4 := g.len; have h5 := h.sz; have h6 := g.sz
  obtain ⟨e1, e2⟩ := ifs_end a 1 [] h.ifs
  refine ⟨fun c hc => (List.mem_append.mp hc).elim (h.ifs c) (g.ifs c), fitCls_app a b 1 [] h.fit (by rw [e1, e2]; exact g.fit), ?_, ?_, ?_⟩
  · rw [asksL_two]; omega
  · rw [List.length_append]; omega
  · rw [sizeL_app]; omega
theorem FilOk.fm {a : List Cl} {m : Nat} (h : FilOk a m) (hm : m ≤ 30) : FmOk (jF a) ∧ FmSize (jF a) ∧ (jF a).dep = 1 := by
  have h1 := h.ask; have h2 := h.len; have h3 := h.sz
  obtain ⟨e1, e2⟩ := ifs_end a 1 [] h.ifs
  have e1' : (jF a).dep = 1 := e1
  refine ⟨⟨h.fit, by show asksL a ≤ 400; omega, by show a.length ≤ 400; omega, ?_, (by show (0 : Int) ≤ 1; decide), (by rw [e1']; show (1 : Int) ≤ 1; decide), fun z e => nomatch e⟩, by show sizeL a ≤ 900000; omega, e1'⟩
  rw [e1']
  exact ⟨⟨Int.le_refl _, by simp [Vv.h], by simp [Vv.top]⟩, Int.le_refl _⟩
theorem fitCls_mem : ∀ {a : List Cl} {lv : Int} {vs : List T}, fitCls a lv vs → ∀ c ∈ a, ∃ lv' vs', fitCl lv' vs' c
  | c :: a, lv, vs, h, d, hd => by
    rcases List.mem_cons.mp hd with e | hd
    · rw [e]; exact ⟨lv, vs, h.1⟩
    · exact fitCls_mem h.2 d hd
theorem FmOk.j {F : Fm} (h : FmOk F) : JFm F := by
  refine ⟨fun c hc => ?_, fun c hc => ?_, h.len⟩
  · obtain ⟨lv, vs, f⟩ := fitCls_mem h.cls c hc
    exact f.clv
  · obtain ⟨lv, vs, f⟩ := fitCls_mem h.cls c hc
    cases c with
    | call v => trivial
    | cfor v o => trivial
    | cif k l =>
      obtain ⟨a, b, _⟩ := fitC.small f.1 f.2.1
      exact ⟨⟨a, by omega⟩, f.2.1.size⟩
    | frm k =>
      obtain ⟨a, b, _⟩ := fitC.small f.1 f.2
      exact ⟨⟨a, by omega⟩, f.2.size⟩
/-! joining changes nothing in what is at the first level -/
mutual
theorem vInT_one : ∀ t : T, vInT (.int 1) 1 t = t
  | .int i => by
    simp only [vInT]
    split
    · rename_i h; rw [h]
    · congr 1; omega
  | .tup xs => by simp only [vInT, vInTs_one xs]
  | .non => rfl
  | .bl _ => rfl
  | .str _ => rfl
theorem vInTs_one : ∀ ts : List T, vInTs (.int 1) 1 ts = ts
  | [] => rfl
  | t :: ts => by simp only [vInTs, vInT_one t, vInTs_one ts]
end
mutual
theorem cIn_one : ∀ c : Cn, cIn (.int 1) 1 c = c
  | .ask t w => by simp only [cIn, vInT_one]
  | .con a ps => by simp only [cIn, cIns_one ps]
  | .qu a t c => by simp only [cIn, vInT_one, cIn_one c]
theorem cIns_one : ∀ cs : List Cn, cIns (.int 1) 1 cs = cs
  | [] => rfl
  | c :: cs => by simp only [cIns, cIn_one c, cIns_one cs]
end
theorem lIn_one (l : Int) : lIn 1 1 l = l := by
  unfold lIn
  split
  · omega
  · split <;> omega
theorem jCls_one {a b : List Cl} (hb : ∀ c ∈ b, isIfC c) (hd : (jF a).dep = 1) : jCls (jF a) (jF b) (.item 1) = b := by
  unfold jCls
  rw [hd]
  have : ∀ c ∈ b, clIn (.item 1) (jF a).lev 1 c = c := fun c hc => by
    obtain ⟨k, l, rfl⟩ := hb c hc
    show Cl.cif (cIn (.int 1) 1 k) (lIn 1 1 l) = _
    rw [cIn_one, lIn_one]
  show b.map _ = b
  exact (List.map_congr_left this).trans (List.map_id' b)
mutual
theorem rise_le : ∀ (c : Cn) (lv : Int) (kn : Kn), fitC c lv kn → lv ≤ 3 → lv + riseC c ≤ 3
  | .ask _ _, lv, kn, h, l3 => by simp only [riseC]; omega
  | .con _ ps, lv, kn, h, l3 => by
    have := rises_le ps lv kn h.2 l3
    simp only [riseC]
    omega
  | .qu _ _ c, lv, kn, h, l3 => by
    have := rise_le c (lv + 1) kn h.2.2 h.2.1
    simp only [riseC]; omega
theorem rises_le : ∀ (cs : List Cn) (lv : Int) (kn : Kn), fitCs cs lv kn → lv ≤ 3 → lv + maxs (riseCs cs) ≤ 3
  | [], lv, kn, h, l3 => by simp only [riseCs, maxs]; omega
  | c :: cs, lv, kn, h, l3 => by
    have h1 := rise_le c lv kn h.1 l3
    have h2 := rises_le cs lv kn h.2 l3
    simp only [riseCs, maxs]
    split <;> omega
end
mutual
theorem tall_le {r : Nat} : ∀ c : Cn, tmsC r c → tallC c ≤ r
  | .ask t _, h => by obtain ⟨v, e, hv⟩ := h; rw [tallC, e, tallT_vv]; exact hv
  | .con _ ps, h => talls_le ps h.2
  | .qu _ t c, h => by
    have h1 := tall_le c h.2
    obtain ⟨v, e, hv⟩ := h.1
    simp only [tallC, e, tallT_vv]
    split <;> omega
theorem talls_le {r : Nat} : ∀ cs : List Cn, tmsCs r cs → maxs (tallCs cs) ≤ r
  | [], h => by simp only [tallCs, maxs]; omega
  | c :: cs, h => by
    have h1 := tall_le c h.1
    have h2 := talls_le cs h.2
    simp only [tallCs, maxs]
    split <;> omega
end
theorem maxs_le {b : Int} (hb : 0 ≤ b) : ∀ {xs : List Int}, (∀ x ∈ xs, x ≤ b) → maxs xs ≤ b
  | [], _ => hb
  | x :: xs, h => by
    have h1 := h x List.mem_cons_self
    have h2 := maxs_le hb (xs := xs) fun y hy => h y (List.mem_cons_of_mem _ hy)
    simp only [maxs]; split <;> omega
theorem top_ifs {b : List Cl} (h : ∀ c ∈ b, isIfC c) (f : fitCls b 1 []) : topL b 1 ≤ 3 := by
  have key : ∀ (b : List Cl) (t : Int), (∀ c ∈ b, isIfC c) → fitCls b 1 [] → t ≤ 3 → (b.foldl stepT (1, t)).1 = 1 ∧ (b.foldl stepT (1, t)).2 ≤ 3 := by
    intro b
    induction b with
    | nil => intro t _ _ ht; exact ⟨rfl, ht⟩
    | cons c b ih =>
      intro t h f ht
      obtain ⟨k, l, rfl⟩ := h c List.mem_cons_self
      have hr := rise_le k 1 _ f.1.1 (by decide)
      rw [List.foldl_cons]
      exact ih _ (fun d hd => h d (List.mem_cons_of_mem _ hd)) f.2 (by simp only; split <;> omega)
  obtain ⟨h1, h2⟩ := key b 1 h f (by decide)
  unfold topL
  simp only [h1]
  split <;> omega
theorem joins_ok {a b : List Cl} {m k : Nat} (h : FilOk a m) (g : FilOk b k) (hm : m ≤ 10) (hk : k ≤ 10) : Joins (jF a) (jF b) (.item 1) := by
  have h1 := h.ask; have h2 := g.ask; have h3 := h.len; have h4 := g.len
  obtain ⟨okA, _, dA⟩ := h.fm (by omega)
  obtain ⟨okB, _, dB⟩ := g.fm (by omega)
  refine ⟨rfl, by simp [Vv.h], by show (Vv.item 1).h ≤ 4; simp [Vv.h], ?_, ?_⟩
  · have n2 : a.all noEnd = true := List.all_eq_true.mpr fun c hc => by obtain ⟨k, l, rfl⟩ := h.ifs c hc; rfl
    have e7 := top_ifs g.ifs g.fit
    have q1 : j1 (jF a) = true := rfl
    have q2 : j2 (jF a) = true := by show (true && a.all noEnd) = true; rw [n2]; rfl
    have q3 : j3 (jF a) (jF b) = true := rfl
    have q4 : j4 (jF a) (jF b) = true := by unfold j4; rw [dA]; rfl
    have q5 : j5 (jF a) (jF b) = true := decide_eq_true (by show (a.length : Int) + b.length ≤ 400; omega)
    have q6 : j6 (jF a) (jF b) = true := decide_eq_true (by show (asksL a : Int) + (asksL b : Nat) ≤ 400; omega)
    have q7 : j7 (jF a) (jF b) = true := by unfold j7; rw [dA]; exact decide_eq_true e7
    unfold joinB
    rw [q1, q2, q3, q4, q5, q6, q7]; rfl
  · unfold jTop
    rw [jCls_one g.ifs dA]
    refine maxs_le (by decide) fun x hx => ?_
    rcases List.mem_cons.mp hx with e | hx
    · rw [e, dA]
      show (vIn (.item 1) 1 (.item 1)).h ≤ 4
      decide
    · obtain ⟨c, hc, rfl⟩ := List.mem_map.mp hx
      obtain ⟨k, l, rfl⟩ := g.ifs c hc
      obtain ⟨lv, vs, f⟩ := fitCls_mem g.fit _ hc
      have := tall_le k (fitC.tms f.1)
      exact this
theorem jFm_one {a b : List Cl} {m k : Nat} (h : FilOk a m) (g : FilOk b k) (hm : m ≤ 10) : jFm (jF a) (jF b) (.item 1) = jF (a ++ b) := by
  obtain ⟨_, _, dA⟩ := h.fm (by omega)
  have e := jCls_one g.ifs dA
  unfold jFm
  rw [e, dA]
  rfl
theorem or_fil {n : Nat} {ca cb : List (Cn × Int)} {a b : List Cl} {C : CH} {p q : Addr} {Q : Kv} {E : Kx} (ra : ∀ x ∈ ca, RawQ x) (rb : ∀ x ∈ cb, RawQ x) (hl : ca.length + cb.length ≤ 10) (ha : Fil ca a) (hb : Fil cb b) (hp : C p = some (FmO (jF a))) (hq' : C q = some (FmO (jF b)))
    (hq : ∀ r C', Sub C C' → C r = none → C' r = some (FmO (jF (nq (ca ++ cb)))) → Q (.ref r) C') : W (n + 113) i_Form___or__ [.ref p, .ref q] C Q E := by
  have fa := fil_ok ra (by omega) ha
  have fb := fil_ok rb (by omega) hb
  obtain ⟨okA, _, dA⟩ := fa.fm (by omega)
  obtain ⟨okB, _, dB⟩ := fb.fm (by omega)
  obtain ⟨okN, szN, _⟩ := (fa.app fb).fm (by omega)
  have e := jFm_one fa fb (by omega)
  have rab : ∀ x ∈ ca ++ cb, RawQ x := fun x hx => (List.mem_append.mp hx).elim (ra x) (rb x)
  have fn := nq_ok rab (by rw [List.length_append]; omega)
  have en : normFm (jF (a ++ b)) = jF (nq (ca ++ cb)) := by
    show ({ jF (a ++ b) with cls := normCls (a ++ b) 1 } : Fm) = _
    rw [norm_two ha hb]
    rfl
  refine or_ok (n := n) okA.j okB.j (joins_ok fa fb (by omega) (by omega)) hp hq' ?_ ?_ ?_ ?_
  · rw [e]; exact okN
  · rw [e]; exact szN
  · rw [e, en]; exact (fitCls_str fn.fit).2
  · rw [e, en]; exact hq

/-! k65: the law's draws -/
def lawB : List CS := match b_law with
  | [_, .forS _ _ _ b, _] => b
  | _ => []
def cdrawB : List CS := match lawB with
  | _ :: .forS _ _ _ b :: _ => b
  | _ => []
theorem terms_nil : Terms [] := ⟨fun _ h => (nomatch h), by simp⟩
theorem draw_turn {N : Nat} {ex : Kxs} {Dd : EndsC} {C0 C : CH} {s pn pq : Addr} {zs : List Str} {cs : List (Cn × Int)} {x0 x2 x3 x4 x5 x6 x9 x10 x11 : Option D} (hn : C0 pn = some (.lst (zs.map D.str))) (hz : Names zs) (h0 : C0 pq = none) (hl : cs.length < 100) (h : St (cup C0 pq (.lst ((qsCl cs).map clD))) C s (N + 120))
    (hD : ∀ q C', RawQ q → St (cup C0 pq (.lst ((qsCl (cs ++ [q])).map clD))) C' s N → Dd.nx [x0, some (.ref s), x2, x3, x4, x5, x6, some (.ref pn), some (.ref pq), x9, x10, x11] C') :
    rdSs (GG 199) ex cdrawB Dd [x0, some (.ref s), x2, x3, x4, x5, x6, some (.ref pn), some (.ref pq), x9, x10, x11] C := by
  have hsl : 1000000 ≤ sizeLine := by decide
  have hq : C pq = some (.lst ((qsCl cs).map clD)) := h.subC _ _ cup_same
  have npq : pn ≠ pq := fun e => by rw [e, h0] at hn; cases hn
  simp only [cdrawB, lawB, b_law]
  rw [rdSs_cons]
  simp_arith [GG_call, oLst]
  refine ⟨isLst_of hq, ?_⟩
  intro pc hpc
  have h1 := h.alloc (o := .lst []) hpc
  have c0 := h.no hpc
  have hn1 : cup (cup C0 pq (.lst ((qsCl cs).map clD))) pc (.lst []) pn = some (.lst (zs.map D.str)) := cup_old c0 (by rw [cup_ne npq]; exact hn)
  refine cond_ok 4 192 (N + 24) _ _ s pn pc 1 (.lst []) zs [] _ _ (by decide) (by decide) (by decide) (h1.le (by omega)) hn1 hz cup_same terms_nil (fun _ z => (nomatch z)) (fun _ z => (nomatch z)) (by decide) (by decide) fun c C1 d h2 => ?_
  have h2 := h2.drop (sub_new c0)
  intro pl hpl
  refine pick_ok (n := 197) (N := N + 27) (h2.alloc hpl) cup_same (by simp) (by simp) fun dl C2 hd h3 => ?_
  have h3 := h3.drop (sub_new (h2.no hpl))
  obtain ⟨l, rfl, hlv⟩ : ∃ l : Int, dl = .int l ∧ (l = 0 ∨ l = 1) := by
    simp only [List.mem_cons, List.not_mem_nil, or_false] at hd
    rcases hd with e | e | e
    · exact ⟨1, e, .inr rfl⟩
    · exact ⟨1, e, .inr rfl⟩
    · exact ⟨0, e, .inl rfl⟩
  have hq3 : C2 pq = some (.lst ((qsCl cs).map clD)) := h3.subC _ _ cup_same
  refine ⟨pq, _, _, rfl, rfl, hq3, by simp [qsCl]; omega, ?_⟩
  have r : RawQ (c, l) := ⟨d.fit, by have := d.ht; show ht c ≤ 10; omega, by have := d.size; show csize c ≤ 8; omega, by have := d.asks; show asks c ≤ 10; omega, hlv⟩
  have e : (qsCl cs).map clD ++ [.tup [.str "if", c.t.d, .int l]] = (qsCl (cs ++ [(c, l)])).map clD := by simp [qsCl, clD, Cl.t, T.d, T.ds]
  rw [e]
  exact hD _ _ r ((St.write h3 h0).le (by omega))
theorem draw_loop2 {N m : Nat} {ex : Kxs} {Dd : EndsC} {C0 : CH} {s pn pq : Addr} {zs : List Str} {x0 x2 x4 x5 x6 x9 x10 x11 : Option D} (hn : C0 pn = some (.lst (zs.map D.str))) (hz : Names zs) (h0 : C0 pq = none) :
    ∀ (js : List D) (cs : List (Cn × Int)) (x3 : Option D) (C : CH), cs.length + js.length = m → m < 100 → (∀ q ∈ cs, RawQ q) → St (cup C0 pq (.lst ((qsCl cs).map clD))) C s (N + 120 * js.length) →
      (∀ cs x3 C', cs.length = m → (∀ q ∈ cs, RawQ q) → St (cup C0 pq (.lst ((qsCl cs).map clD))) C' s N → Dd.nx [x0, some (.ref s), x2, x3, x4, x5, x6, some (.ref pn), some (.ref pq), x9, x10, x11] C') →
      forL (hT (.nm 3)) (rdSs (GG 199) ex cdrawB) (fun _ => True) Dd js [x0, some (.ref s), x2, x3, x4, x5, x6, some (.ref pn), some (.ref pq), x9, x10, x11] C
  | [], cs, x3, C, hm, hm2, hr, h, hD => ⟨trivial, hD cs x3 C (by simpa using hm) hr (h.le (by simp))⟩
  | j :: js, cs, x3, C, hm, hm2, hr, h, hD => by
    simp only [List.length_cons] at hm h
    refine ⟨trivial, _, rfl, ?_⟩
    refine draw_turn (N := N + 120 * js.length) hn hz h0 (by omega) (h.le (by omega)) fun q C' rq h' => ?_
    refine draw_loop2 hn hz h0 js (cs ++ [q]) _ C' (by simp; omega) hm2 (fun x hx => ?_) h' hD
    rcases List.mem_append.mp hx with hx | hx
    · exact hr x hx
    · rw [List.mem_singleton.mp hx]; exact rq
/-! the forms -/
def FormsAt (C : CH) : List (Cn × Int) → List Addr → Prop
  | [], [] => True
  | q :: cs, p :: ps => C p = some (FmO (jF (qsCl [q]))) ∧ FormsAt C cs ps
  | _, _ => False
theorem FormsAt.sub {C C' : CH} (s : Sub C C') : ∀ {cs : List (Cn × Int)} {ps : List Addr}, FormsAt C cs ps → FormsAt C' cs ps
  | [], [], _ => trivial
  | q :: cs, p :: ps, h => ⟨s _ _ h.1, FormsAt.sub s h.2⟩
theorem FormsAt.len {C : CH} : ∀ {cs : List (Cn × Int)} {ps : List Addr}, FormsAt C cs ps → ps.length = cs.length
  | [], [], _ => rfl
  | q :: cs, p :: ps, h => by simp [FormsAt.len h.2]
theorem FormsAt.get {C : CH} : ∀ {cs : List (Cn × Int)} {ps : List Addr} {i : Nat}, FormsAt C cs ps → (hi : i < cs.length) → ∃ p, ps[i]? = some p ∧ C p = some (FmO (jF (qsCl [cs[i]])))
  | q :: cs, p :: ps, 0, h, _ => ⟨p, rfl, h.1⟩
  | q :: cs, p :: ps, i + 1, h, hi => by
    obtain ⟨r, e1, e2⟩ := FormsAt.get (i := i) h.2 (by simpa using hi)
    exact ⟨r, by simpa using e1, by simpa using e2⟩
theorem form_one {n : Nat} {ex : Kxs} {C : CH} {q : Cn × Int} {x0 x1 x2 x3 x4 x5 x6 x7 x8 x9 x10 : Option D} {Q : Kv} (rq : RawQ q) (hQ : ∀ p, C p = none → Q (.ref p) (cup C p (FmO (jF (qsCl [q]))))) :
    rdE (GG (n + 15)) ex (.make 4 i_Form___init__ 5 2 0 [.pos 0, .pos 1, .pos 2, .dfl .non, .dfl .non] [(.tup [(.var 11)]), (.cst (.int 1))] []) [x0, x1, x2, x3, x4, x5, x6, x7, x8, x9, x10, some (clD (.cif q.1 q.2))] C Q := by
  have r1 : ∀ x ∈ [q], RawQ x := fun x hx => by rw [List.mem_singleton.mp hx]; exact rq
  obtain ⟨ok, sz, dp⟩ := (raw_ok r1).fm (show (1 : Nat) ≤ 30 by decide)
  simp_arith [cMake, GG_make]
  have e : D.tup [clD (.cif q.1 q.2)] = (clsT (jF (qsCl [q])).cls).d := rfl
  have e1 : D.int 1 = (jF (qsCl [q])).val.t.d := rfl
  rw [e, e1]
  refine make_ok (n := n) (F := jF (qsCl [q])) ok (.inr ⟨rfl, dp.symm⟩) fun m hm => ?_
  exact hQ m hm
theorem forms_lc {n : Nat} {ex : Kxs} {G : CH → Prop} {x0 x1 x2 x3 x4 x5 x6 x7 x8 x9 x10 x11 : Option D} {Kq : List D → CH → Prop} {B : CH} (hG : ∀ C', Sub B C' → G C') :
    ∀ (cs : List (Cn × Int)) (acc : List D) (C : CH), (∀ q ∈ cs, RawQ q) → acc.length + cs.length ≤ 100 → Sub B C → (∀ C' ps, Sub C C' → FormsAt C' cs ps → Kq (acc ++ ps.map D.ref) C') →
      lcL (.nm 11) [11] [x0, x1, x2, x3, x4, x5, x6, x7, x8, x9, x10, x11] cYes (rdE (GG (n + 15)) ex (.make 4 i_Form___init__ 5 2 0 [.pos 0, .pos 1, .pos 2, .dfl .non, .dfl .non] [(.tup [(.var 11)]), (.cst (.int 1))] [])) G Kq ((qsCl cs).map clD) acc C := by
  intro cs
  have hsl : 1000000 ≤ sizeLine := by decide
  induction cs with
  | nil => intro acc C hr hl hs hK; exact ⟨hG C hs, by have := hK C [] Sub.refl trivial; simpa using this⟩
  | cons q cs ih =>
    intro acc C hr hl hs hK
    simp only [List.length_cons] at hl
    refine ⟨hG C hs, _, rfl, ?_⟩
    show rdE (GG (n + 15)) ex _ _ C _
    refine form_one (n := n) (hr q List.mem_cons_self) fun p hp => ?_
    refine ⟨by omega, ?_⟩
    refine ih (acc ++ [.ref p]) _ (fun x hx => hr x (List.mem_cons_of_mem _ hx)) (by simp; omega) (hs.trans (sub_new hp)) fun C' ps s' hf => ?_
    have := hK C' (p :: ps) ((sub_new hp).trans s') ⟨s' _ _ cup_same, hf⟩
    simpa using this

/-! the text of a condition -/
theorem so_iff {z : Str} : PyData.strOk z = true ↔ ∀ c ∈ z.cps.toList, c < 1114112 := by
  show z.cps.all (· < 0x110000) = true ↔ _
  rw [← Array.all_toList, List.all_eq_true]
  simp only [decide_eq_true_eq]
theorem so_app {a b : Str} (ha : PyData.strOk a = true) (hb : PyData.strOk b = true) : PyData.strOk (a ++ b) = true := by
  rw [so_iff] at *
  intro c hc
  rw [show (a ++ b).cps.toList = a.cps.toList ++ b.cps.toList from TL.tl_append a b] at hc
  rcases List.mem_append.mp hc with h | h
  · exact ha c h
  · exact hb c h
theorem so_join {s : Str} (hs : PyData.strOk s = true) : ∀ ts : List Str, (∀ t ∈ ts, PyData.strOk t = true) → PyData.strOk (Str.join s ts) = true
  | [], _ => show PyData.strOk Str.empty = true by decide +kernel
  | [x], h => h x List.mem_cons_self
  | x :: y :: r, h => so_app (so_app (h x List.mem_cons_self) hs) (so_join hs (y :: r) fun t ht => h t (List.mem_cons_of_mem _ ht))
theorem ch_lt (c : Char) : c.toNat < 1114112 := by
  have := c.valid
  rcases this with h | ⟨_, h⟩
  · have : c.toNat < 55296 := h
    omega
  · exact h
theorem so_char {q c : Nat} (hc : c < 1114112) : ∀ x ∈ Builtin.Str.reprChar q c, x < 1114112 := by
  have hex : ∀ k, ∀ x ∈ List.replicate (k - ((Nat.toDigits 16 c).map Char.toNat).length) 48 ++ (Nat.toDigits 16 c).map Char.toNat, x < 1114112 := fun k x hx => by
    rcases List.mem_append.mp hx with h | h
    · have := List.eq_of_mem_replicate h; omega
    · obtain ⟨d, _, rfl⟩ := List.mem_map.mp h
      exact ch_lt d
  unfold Builtin.Str.reprChar
  dsimp only
  repeat' split
  all_goals intro x hx
  all_goals first
    | (simp only [List.mem_cons, List.not_mem_nil, or_false] at hx; rcases hx with rfl | rfl <;> omega)
    | (simp only [List.mem_cons, List.not_mem_nil, or_false] at hx; omega)
    | (rcases List.mem_append.mp hx with h | h
       · simp only [List.mem_cons, List.not_mem_nil, or_false] at h; rcases h with rfl | rfl <;> omega
       · exact hex _ x h)
theorem so_fold {q : Nat} : ∀ (l : List Nat) (acc : Array Nat), (∀ c ∈ l, c < 1114112) → (∀ c ∈ acc.toList, c < 1114112) → ∀ c ∈ (l.foldl (fun out c => out ++ (Builtin.Str.reprChar q c).toArray) acc).toList, c < 1114112
  | [], acc, _, h => h
  | x :: l, acc, hl, h => so_fold l _ (fun c hc => hl c (List.mem_cons_of_mem _ hc)) fun c hc => by
    rw [Array.toList_append] at hc
    rcases List.mem_append.mp hc with h' | h'
    · exact h c h'
    · exact so_char (hl x List.mem_cons_self) c h'
theorem so_repr {z : Str} (h : PyData.strOk z = true) : PyData.strOk (reprText z) = true := by
  rw [so_iff] at *
  have hq : reprQuote z < 1114112 := by
    unfold reprQuote
    split <;> omega
  intro c hc
  unfold reprText at hc
  rw [← Array.foldl_toList] at hc
  rw [Array.toList_push] at hc
  rcases List.mem_append.mp hc with h' | h'
  · refine so_fold _ _ h (fun c hc => ?_) c h'
    have : c = reprQuote z := by simpa using hc
    rw [this]; exact hq
  · rw [List.mem_singleton.mp h']; exact hq
/-- what is small enough to be shown -/
structure Shows (t : T) (w : Nat) : Prop where
  can : t.p.showable = true
  short : t.p.leavesShort 8 = true
  wt : t.p.weight ≤ w
  so : PyData.strOk t.p.shown = true
structure ShowsL (ts : List T) (w : Nat) : Prop where
  can : PyData.showableAll (T.pl ts) = true
  short : PyData.leavesShortAll 8 (T.pl ts) = true
  wt : PyData.weightAll (T.pl ts) ≤ w
  so : ∀ x ∈ PyData.shownAll (T.pl ts), PyData.strOk x = true
theorem ShowsL.nil : ShowsL [] 0 := ⟨rfl, rfl, Nat.le_refl _, fun _ h => nomatch h⟩
theorem ShowsL.cons {t : T} {ts : List T} {w v : Nat} (h : Shows t w) (hs : ShowsL ts v) : ShowsL (t :: ts) (w + 1 + v) := by
  refine ⟨?_, ?_, ?_, fun x hx => ?_⟩
  · simp only [T.pl, PyData.showableAll, h.can, hs.can, Bool.and_self]
  · simp only [T.pl, PyData.leavesShortAll, h.short, hs.short, Bool.and_self]
  · simp only [T.pl, PyData.weightAll]
    have := h.wt
    have := hs.wt
    omega
  · simp only [T.pl, PyData.shownAll] at hx
    rcases List.mem_cons.mp hx with e | hx
    · rw [e]; exact h.so
    · exact hs.so x hx
theorem ShowsL.tup {ts : List T} {w : Nat} (h : ShowsL ts w) : Shows (.tup ts) w := by
  refine ⟨h.can, h.short, h.wt, ?_⟩
  show PyData.strOk (tupleText (PyData.shownAll (T.pl ts))) = true
  unfold tupleText
  refine so_app (so_app (by decide +kernel) (so_join (by decide +kernel) _ h.so)) ?_
  split <;> decide +kernel
theorem Shows.le {t : T} {w v : Nat} (h : Shows t w) (hv : w ≤ v) : Shows t v := ⟨h.can, h.short, Nat.le_trans h.wt hv, h.so⟩
theorem shows_nm {z : Str} (h : goodNm z) : Shows (.str z) 8 := by
  refine ⟨rfl, ?_, ?_, so_repr h.2.2⟩
  · show (z.cps.toList.all fun c => decide (c < 16 ^ 8)) = true
    have := so_iff.mp h.2.2
    rw [List.all_eq_true]
    intro c hc
    have := this c hc
    exact decide_eq_true (by omega)
  · show z.cps.size ≤ 8
    exact h.2.1
theorem shows_item {i : Int} (h1 : 1 ≤ i) (h3 : i ≤ 3) : Shows (.int i) 2 := by
  have : i = 1 ∨ i = 2 ∨ i = 3 := by omega
  rcases this with rfl | rfl | rfl <;> exact ⟨by decide +kernel, by decide +kernel, by decide +kernel, by decide +kernel⟩
theorem shows_vv : ∀ v : Vv, v.good → v.top ≤ 3 → Shows v.t (12 * v.size)
  | .item i, g, h => (shows_item g h).le (by simp only [Vv.size]; omega)
  | .app1 z a, g, h => by
    have := ((ShowsL.nil.cons (shows_vv a g.2 h)).cons (shows_nm g.1)).tup
    simp only [Vv.t, Vv.size] at *
    exact this.le (by omega)
  | .app2 z a b, g, h => by
    have ta : a.top ≤ 3 := by simp only [Vv.top] at h; split at h <;> omega
    have tb : b.top ≤ 3 := by simp only [Vv.top] at h; split at h <;> omega
    have := (((ShowsL.nil.cons (shows_vv b g.2.2 tb)).cons (shows_vv a g.2.1 ta)).cons (shows_nm g.1)).tup
    simp only [Vv.t, Vv.size] at *
    exact this.le (by omega)
theorem fitT.shows {t : T} {at_ : Int} {kn : Kn} (h : fitT t at_ kn) : Shows t 380 := by
  obtain ⟨v, rfl, g, hh, ht, f⟩ := h.ex
  have := vv_size 4 v hh
  exact (shows_vv v g ht).le (by omega)
theorem shows_bl (b : Bool) : Shows (.bl b) 0 := by
  cases b <;> exact ⟨by decide +kernel, by decide +kernel, by decide +kernel, by decide +kernel⟩
theorem shows_ask : Shows (.str "ask") 3 := ⟨by decide +kernel, by decide +kernel, by decide +kernel, by decide +kernel⟩
theorem shows_cw (a : Bool) : Shows (.str (cw a)) 3 := by
  cases a <;> exact ⟨by decide +kernel, by decide +kernel, by decide +kernel, by decide +kernel⟩
theorem shows_qw (a : Bool) : Shows (.str (qw a)) 3 := by
  cases a <;> exact ⟨by decide +kernel, by decide +kernel, by decide +kernel, by decide +kernel⟩
mutual
theorem shows_cn : ∀ (c : Cn) (at_ : Int) (kn : Kn), fitC c at_ kn → Shows c.t (400 * csize c - 8)
  | .ask t w, at_, kn, f => by
    have := (((ShowsL.nil.cons (shows_bl w)).cons (fitT.shows f)).cons shows_ask).tup
    simp only [Cn.t, csize]
    exact this.le (by omega)
  | .con a ps, at_, kn, f => by
    have := ((ShowsL.nil.cons (shows_cns ps at_ kn f.2).tup).cons (shows_cw a)).tup
    simp only [Cn.t, csize]
    exact this.le (by omega)
  | .qu a t c, at_, kn, f => by
    have hp := csize_pos c
    have := (((ShowsL.nil.cons (shows_cn c _ kn f.2.2)).cons (fitT.shows f.1)).cons (shows_qw a)).tup
    simp only [Cn.t, csize]
    exact this.le (by omega)
theorem shows_cns : ∀ (cs : List Cn) (at_ : Int) (kn : Kn), fitCs cs at_ kn → ShowsL (Cn.ts cs) (400 * csizes cs)
  | [], at_, kn, f => ShowsL.nil
  | c :: cs, at_, kn, f => by
    have hp := csize_pos c
    have := (shows_cns cs at_ kn f.2).cons (shows_cn c at_ kn f.1)
    simp only [Cn.ts, csizes]
    exact ⟨this.can, this.short, Nat.le_trans this.wt (by omega), this.so⟩
end
theorem repr_ok {c : Cn} {at_ : Int} {kn : Kn} {C : CH} {Q : Kv} (f : fitC c at_ kn) (hc : csize c ≤ 100) (hh : ht c ≤ 100) (hq : Q (.str c.t.p.shown) C) : oRepr [c.t.d] C Q := by
  have s := shows_cn c at_ kn f
  have hl := PyData.shown_le 8 (Nat.le_refl _) c.t.p s.short
  have hw := s.wt
  have hsl : (2000000 : Nat) ≤ sizeLine := by decide
  have hd := (fit_ok c at_ kn f).2.1
  refine ⟨_, _, rfl, c.t.snap C, s.can, ?_, by omega, hq⟩
  have : c.t.p.weight ≤ 40000 := by omega
  omega
theorem shown_so {c : Cn} {at_ : Int} {kn : Kn} (f : fitC c at_ kn) : PyData.strOk c.t.p.shown = true := (shows_cn c at_ kn f).so

/-! k65: what kind the joined form is of, its text -/
def levC : Cl → Int
  | .cif _ l => l
  | _ => 0
def levs (cs : List (Cn × Int)) : List Int := (nq cs).map levC
theorem ifs_lev : ∀ {a : List Cl} , (∀ c ∈ a, isIfC c) → fitCls a 1 [] → ∀ c ∈ a, ∃ k l, c = Cl.cif k l ∧ (l = 0 ∨ l = 1)
  | c :: a, h, f, d, hd => by
    obtain ⟨k, l, rfl⟩ := h c List.mem_cons_self
    rcases List.mem_cons.mp hd with e | hd
    · have := f.1.2.2
      exact ⟨k, l, e, by omega⟩
    · exact ifs_lev (fun x hx => h x (List.mem_cons_of_mem _ hx)) f.2 d hd
theorem sep_nq (cs : List (Cn × Int)) : Sep (nq cs) := by
  unfold nq
  cases qsS cs with
  | nil => trivial
  | cons c r => exact mrg_sep r c
theorem nq_ne {cs : List (Cn × Int)} (h : cs ≠ []) : nq cs ≠ [] := by
  cases cs with
  | nil => exact (h rfl).elim
  | cons q cs =>
    obtain ⟨e, r, he, _⟩ := mrg_head (qsS cs) (.cif (sett q.1) q.2)
    intro hn
    have : mrg (Cl.cif (sett q.1) q.2) (qsS cs) = [] := hn
    rw [he] at this
    cases this
theorem kinds_of {X : List Cl} (hne : X ≠ []) (h : ∀ c ∈ X, ∃ k l, c = Cl.cif k l ∧ (l = 0 ∨ l = 1)) (hs : Sep X) : kindsF (jF X) = (if X.map levC = [1] then [("filter" : Str)] else [("ends" : Str)] : List Str) := by
  have n1 : X.all (fun c => decide (clW c = ("call" : Str))) = false := by
    cases X with
    | nil => exact (hne rfl).elim
    | cons c r =>
      obtain ⟨k, l, rfl, _⟩ := h c List.mem_cons_self
      have : (Str.ofString "if" = Str.ofString "call") = False := ne_if_call
      simp only [List.all_cons, clW, this, decide_false, Bool.false_and]
  have n2 : ∀ w : Str, (w = ("for" : Str) ∨ w = ("from" : Str)) → X.any (fun c => decide (clW c = w)) = false := by
    intro w hw
    rw [List.any_eq_false]
    intro c hc
    obtain ⟨k, l, rfl, _⟩ := h c hc
    rcases hw with rfl | rfl
    · have : (Str.ofString "if" = Str.ofString "for") = False := ne_if_for
      simp only [clW, this, decide_false]; simp
    · have : (Str.ofString "if" = Str.ofString "from") = False := ne_if_from
      simp only [clW, this, decide_false]; simp
  have key : ∀ f e : Bool, (decide (X.length = 1) && ((X.any (isIf1 1)) && (true && true))) = f → X.any (isIf1 0) = e → kindsF (jF X) = ((if f then [("filter" : Str)] else []) ++ (if e then [("ends" : Str)] else []) : List Str) := by
    intro f e hf he
    unfold kindsF kindB
    have e1 : (jF X).cls = X := rfl
    have e2 : (jF X).lev = 1 := rfl
    have e3 : isOne (jF X).val = true := rfl
    rw [e1, e2, e3, n1, n2 _ (.inl rfl), n2 _ (.inr rfl), he]
    have hf' : (decide (X.length = 1) && (X.any (isIf1 1) && (true && decide ((1 : Int) = 1)))) = f := hf
    rw [hf']
    cases f <;> cases e <;> rfl
  cases X with
  | nil => exact (hne rfl).elim
  | cons c r =>
    obtain ⟨k, l, rfl, hl⟩ := h c List.mem_cons_self
    cases r with
    | nil =>
      rcases hl with rfl | rfl
      · rw [key false true (by rfl) (by rfl)]
        rfl
      · rw [key true false (by rfl) (by rfl)]
        rfl
    | cons d r =>
      obtain ⟨k2, m, rfl, hm⟩ := h d (List.mem_cons_of_mem _ List.mem_cons_self)
      have hlm : l ≠ m := by
        intro e
        have := hs.1
        simp [joined, e] at this
      have e0 : (Cl.cif k l :: Cl.cif k2 m :: r).any (isIf1 0) = true := by
        simp only [List.any_cons, isIf1]
        rcases hl with rfl | rfl <;> rcases hm with rfl | rfl <;> simp at hlm ⊢
      have e1 : ¬ ((Cl.cif k l :: Cl.cif k2 m :: r).map levC = [1]) := by simp
      rw [key false true (by simp) e0, if_neg e1]
      rfl
/-! the text of [x, x] -/
theorem shows_one : Shows (.int 1) 2 := ⟨by decide +kernel, by decide +kernel, by decide +kernel, by decide +kernel⟩
theorem shows_non : Shows .non 0 := ⟨by decide +kernel, by decide +kernel, by decide +kernel, by decide +kernel⟩
theorem shows_if : Shows (.str "if") 3 := ⟨by decide +kernel, by decide +kernel, by decide +kernel, by decide +kernel⟩
theorem shows_lev {l : Int} (h : l = 0 ∨ l = 1) : Shows (.int l) 2 := by
  rcases h with rfl | rfl <;> exact ⟨by decide +kernel, by decide +kernel, by decide +kernel, by decide +kernel⟩
theorem shows_cls : ∀ (X : List Cl), (∀ c ∈ X, ∃ k l, c = Cl.cif k l ∧ (l = 0 ∨ l = 1)) → fitCls X 1 [] → ShowsL (X.map Cl.t) (500 * sizeL X)
  | [], _, _ => ShowsL.nil
  | c :: X, h, f => by
    obtain ⟨k, l, rfl, hl⟩ := h c List.mem_cons_self
    have ih := shows_cls X (fun d hd => h d (List.mem_cons_of_mem _ hd)) f.2
    have h1 := shows_cn k 1 _ f.1.1
    have hp := csize_pos k
    have t := (((ShowsL.nil.cons (shows_lev hl)).cons h1).cons shows_if).tup
    have := ih.cons t
    refine ⟨this.can, this.short, ?_, this.so⟩
    have hw := this.wt
    rw [sizeL_cons]
    simp only [sizeCl]
    have e : PyData.weightAll (T.pl ((Cl.cif k l :: X).map Cl.t)) = PyData.weightAll (T.pl (T.tup [.str "if", k.t, .int l] :: X.map Cl.t)) := rfl
    rw [e]
    omega
def dueT (X : List Cl) : T := .tup [clsT X, .int 1, .int 1, .non, .int 1]
theorem due_parts {X : List Cl} (h : (jF X).dep = 1) : partsD (jF X) = (dueT X).d := by
  unfold partsD
  rw [h]
  rfl
theorem shows_due {X : List Cl} (h : ∀ c ∈ X, ∃ k l, c = Cl.cif k l ∧ (l = 0 ∨ l = 1)) (f : fitCls X 1 []) : Shows (dueT X) (500 * sizeL X + 20) := by
  have h1 := (shows_cls X h f).tup
  exact (((((ShowsL.nil.cons shows_one).cons shows_non).cons shows_one).cons shows_one).cons h1).tup.le (by omega)
theorem so_from0 : ∀ (ts : List Str) (k : Nat) (acc : Str), PyData.strOk acc = true → (∀ t ∈ ts, PyData.strOk t = true) → PyData.strOk (textFrom k acc ts) = true
  | [], _, acc, h, _ => h
  | t :: ts, k, acc, h, hs => by
    refine so_from0 ts (k + 1) _ (so_app (so_app h ?_) (hs t List.mem_cons_self)) fun x hx => hs x (List.mem_cons_of_mem _ hx)
    split <;> decide +kernel
theorem repr_two {X : List Cl} {C : CH} {p : Addr} {Q : Kv} (h : ∀ c ∈ X, ∃ k l, c = Cl.cif k l ∧ (l = 0 ∨ l = 1)) (f : fitCls X 1 []) (hz : sizeL X ≤ 50) (hp : C p = some (.lst [(dueT X).d, (dueT X).d])) (hq : Q (.str (PyData.list [(dueT X).p, (dueT X).p]).shown) C) : oRepr [.ref p] C Q ∧ PyData.strOk (PyData.list [(dueT X).p, (dueT X).p]).shown = true := by
  have s := shows_due h f
  have L := (ShowsL.nil.cons s).cons s
  have hsl : (16000000 : Nat) ≤ sizeLine := by decide
  have hc : (PyData.list [(dueT X).p, (dueT X).p]).showable = true := L.can
  have hs : (PyData.list [(dueT X).p, (dueT X).p]).leavesShort 8 = true := L.short
  have hw : (PyData.list [(dueT X).p, (dueT X).p]).weight ≤ 60000 := by have := L.wt; exact Nat.le_trans this (by omega)
  have hl := PyData.shown_le 8 (Nat.le_refl _) _ hs
  have d := fitCls_deep f
  have q := (depths_le d).2
  have hd : (PyData.list [(dueT X).p, (dueT X).p]).depth ≤ 350 := by
    simp only [dueT, clsT, T.p, T.pl, PyData.depth, PyData.depthAll]
    omega
  refine ⟨⟨_, _, rfl, Snap.lst hp (.cons ((dueT X).snap C) (.cons ((dueT X).snap C) .nil)), hc, ?_, hd, hq⟩, ?_⟩
  · omega
  · show PyData.strOk (listText (PyData.shownAll [(dueT X).p, (dueT X).p])) = true
    unfold listText
    exact so_app (so_from0 _ _ _ (by decide +kernel) L.so) (by decide +kernel)
theorem eqv_ints : ∀ (xs ys : List Int), PyData.eqvAll (xs.map PyData.int) (ys.map PyData.int) = decide (xs = ys)
  | [], [] => by simp [PyData.eqvAll]
  | [], y :: ys => by simp [PyData.eqvAll]
  | x :: xs, [] => by simp [PyData.eqvAll]
  | x :: xs, y :: ys => by
    simp only [List.map_cons, PyData.eqvAll, eqv_ints xs ys, PyData.eqv]
    by_cases h1 : x = y <;> by_cases h2 : xs = ys <;> simp [h1, h2]
theorem jeq_ints {f : Bool → Bool} {C : CH} {p q : Addr} {xs ys : List Int} {Q : Kv} (hp : C p = some (.lst (xs.map D.int))) (hq : C q = some (.lst (ys.map D.int))) (h : Q (.bl (f (decide (xs = ys)))) C) : oEqN f (.ref p) (.ref q) C Q := by
  obtain ⟨a1, a2⟩ := deep_ints xs
  obtain ⟨b1, b2⟩ := deep_ints ys
  refine ⟨_, _, .lst hp (snap_ints C xs), .lst hq (snap_ints C ys), ?_, ?_, ?_⟩
  · unfold deepOk
    have : (PyData.list (xs.map PyData.int)).depth ≤ 350 := by show PyData.depthAll _ + 1 ≤ 350; omega
    rw [decide_eq_true this, Bool.and_true]; exact a1
  · unfold deepOk
    have : (PyData.list (ys.map PyData.int)).depth ≤ 350 := by show PyData.depthAll _ + 1 ≤ 350; omega
    rw [decide_eq_true this, Bool.and_true]; exact b1
  · have e : PyData.eqv (.list (xs.map PyData.int)) (.list (ys.map PyData.int)) = decide (xs = ys) := by
      show PyData.eqvAll _ _ = _
      exact eqv_ints xs ys
    rw [e]; exact h

/-! k65: the law -/
def orB : List CS := match lawB with
  | _ :: _ :: _ :: _ :: .forS _ _ _ b :: _ => b
  | _ => []
theorem or_turn {ex : Kxs} {Dd : EndsC} {B C : CH} {pf p9 p10 : Addr} {cs : List (Cn × Int)} {ps : List Addr} {a b : List Cl} {k : Nat} {x0 x1 x2 x5 x6 x7 x8 x11 : Option D} (k1 : 1 ≤ k) (km : k < cs.length) (l5 : cs.length ≤ 5) (hr : ∀ q ∈ cs, RawQ q) (hB : Sub B C) (hf : FormsAt B cs ps) (hpf : B pf = some (.lst (ps.map D.ref)))
    (ha : Fil (cs.take k) a) (hb : Fil (cs.drop (cs.length - k)) b) (h9 : C p9 = some (FmO (jF a))) (h10 : C p10 = some (FmO (jF b)))
    (hD : ∀ q9 q10 C', Sub C C' → C' q9 = some (FmO (jF (nq (cs.take (k + 1))))) → C' q10 = some (FmO (jF (nq (cs.drop (cs.length - (k + 1)))))) → Dd.nx [x0, x1, x2, some (.int (1 + ((k - 1 : Nat) : Int))), some (.ref pf), x5, x6, x7, x8, some (.ref q9), some (.ref q10), x11] C') :
    rdSs (GG 199) ex orB Dd [x0, x1, x2, some (.int (1 + ((k - 1 : Nat) : Int))), some (.ref pf), x5, x6, x7, x8, some (.ref p9), some (.ref p10), x11] C := by
  have hl := hf.len
  obtain ⟨r1, e1, h1⟩ := hf.get km
  have km2 : cs.length - 1 - k < cs.length := by omega
  obtain ⟨r2, e2, h2⟩ := hf.get km2
  have i1 : L2.atI (ps.map D.ref) (1 + ((k - 1 : Nat) : Int)) = some (.ref r1) := by
    have e : (1 + ((k - 1 : Nat) : Int)) = ((k : Nat) : Int) := by omega
    rw [e]
    exact L2.atI_nat (by rw [List.getElem?_map, e1]; rfl)
  have i2 : L2.atI (ps.map D.ref) (-1 - (1 + ((k - 1 : Nat) : Int))) = some (.ref r2) := by
    have e : L2.ixN (ps.map D.ref).length (-1 - (1 + ((k - 1 : Nat) : Int))) = some (cs.length - 1 - k) := by
      unfold L2.ixN
      rw [List.length_map, hl]
      rw [if_neg (by omega), if_pos (by omega)]
      congr 1; omega
    unfold L2.atI
    rw [e]
    show (ps.map D.ref)[cs.length - 1 - k]? = _
    rw [List.getElem?_map, e2]; rfl
  simp only [orB, lawB, b_law]
  rw [rdSs_cons]
  simp_arith [cOrO, GG_call]
  refine oIxA_lst (hB _ _ hpf) i1 ?_
  refine ⟨r1, rfl, ⟨_, h9⟩, ⟨_, hB _ _ h1⟩, ?_⟩
  have t1 : cs.take k ++ [cs[k]] = cs.take (k + 1) := by rw [List.take_append_getElem]
  have t2 : cs[cs.length - 1 - k] :: cs.drop (cs.length - k) = cs.drop (cs.length - (k + 1)) := by
    have e : cs.length - k = (cs.length - 1 - k) + 1 := by omega
    have e' : cs.length - (k + 1) = cs.length - 1 - k := by omega
    rw [e, e', List.getElem_cons_drop]
  refine or_fil (n := 86) (ca := cs.take k) (cb := [cs[k]]) (fun x hx => hr x (List.mem_of_mem_take hx)) (fun x hx => by rw [List.mem_singleton.mp hx]; exact hr _ (List.getElem_mem _)) (by simp; omega) ha (.inl rfl) h9 (hB _ _ h1) fun q9 C1 s1 hq0 hq9 => ?_
  rw [t1] at hq9
  refine ⟨⟨q9, rfl⟩, ?_⟩
  refine oIxA_lst (s1 _ _ (hB _ _ hpf)) i2 ?_
  refine ⟨r2, rfl, ⟨_, s1 _ _ (hB _ _ h2)⟩, ⟨_, s1 _ _ h10⟩, ?_⟩
  refine or_fil (n := 86) (ca := [cs[cs.length - 1 - k]]) (cb := cs.drop (cs.length - k)) (fun x hx => by rw [List.mem_singleton.mp hx]; exact hr _ (List.getElem_mem _)) (fun x hx => hr x (List.mem_of_mem_drop hx)) (by simp; omega) (.inl rfl) hb (s1 _ _ (hB _ _ h2)) (s1 _ _ h10) fun q10 C2 s2 hq0' hq10 => ?_
  rw [List.singleton_append, t2] at hq10
  exact ⟨⟨q10, rfl⟩, _, _, ⟨rfl, rfl⟩, hD q9 q10 C2 (s1.trans s2) (s2 _ _ hq9) hq10⟩
theorem or_loop {ex : Kxs} {Dd : EndsC} {B : CH} {pf : Addr} {cs : List (Cn × Int)} {ps : List Addr} {x0 x1 x2 x5 x6 x7 x8 x11 : Option D} (l5 : cs.length ≤ 5) (hr : ∀ q ∈ cs, RawQ q) (hf : FormsAt B cs ps) (hpf : B pf = some (.lst (ps.map D.ref)))
    (hD : ∀ y q9 q10 C', Sub B C' → C' q9 = some (FmO (jF (nq cs))) → C' q10 = some (FmO (jF (nq cs))) → Dd.nx [x0, x1, x2, y, some (.ref pf), x5, x6, x7, x8, some (.ref q9), some (.ref q10), x11] C') :
    ∀ (j k : Nat) (a b : List Cl) (p9 p10 : Addr) (x3 : Option D) (C : CH), 1 ≤ k → k + (j + 1) = cs.length → Sub B C → Fil (cs.take k) a → Fil (cs.drop (cs.length - k)) b → C p9 = some (FmO (jF a)) → C p10 = some (FmO (jF b)) →
      forL (hT (.nm 3)) (rdSs (GG 199) ex orB) (fun _ => True) Dd ((List.range' (k - 1) (j + 1)).map fun (i : Nat) => D.int (1 + i)) [x0, x1, x2, x3, some (.ref pf), x5, x6, x7, x8, some (.ref p9), some (.ref p10), x11] C
  | 0, k, a, b, p9, p10, x3, C, k1, hk, hB, ha, hb, h9, h10 => by
    rw [List.range'_succ, List.map_cons]
    refine ⟨trivial, _, rfl, ?_⟩
    refine or_turn (B := B) (ps := ps) k1 (by omega) l5 hr hB hf hpf ha hb h9 h10 fun q9 q10 C' s' h9' h10' => ?_
    have e1 : cs.take (k + 1) = cs := by rw [hk]; exact List.take_length
    have e2 : cs.drop (cs.length - (k + 1)) = cs := by rw [show cs.length - (k + 1) = 0 by omega]; rfl
    rw [e1] at h9'
    rw [e2] at h10'
    exact ⟨trivial, hD _ q9 q10 C' (hB.trans s') h9' h10'⟩
  | j + 1, k, a, b, p9, p10, x3, C, k1, hk, hB, ha, hb, h9, h10 => by
    rw [List.range'_succ, List.map_cons]
    refine ⟨trivial, _, rfl, ?_⟩
    refine or_turn (B := B) (ps := ps) k1 (by omega) l5 hr hB hf hpf ha hb h9 h10 fun q9 q10 C' s' h9' h10' => ?_
    have e : k - 1 + 1 = (k + 1) - 1 := by omega
    rw [e]
    exact or_loop l5 hr hf hpf hD j (k + 1) _ _ q9 q10 _ C' (by omega) (by omega) (hB.trans s') (.inr rfl) (.inr rfl) h9' h10'
theorem lparts_ok {n : Nat} {F : Fm} {p : Addr} {C : CH} {Q : Kv} {E : Kx} (hp : C p = some (FmO F)) (hq : Q (partsD F) C) : W (n + 1) i__law_parts [.ref p] C Q E := by
  rw [W__law_parts]
  unfold b__law_parts
  simp_arith! [cAttr]
  exact ⟨c_Form, _, hp, by simp, _, fs_clauses, c_Form, _, hp, by simp, _, fs_value, c_Form, _, hp, by simp, _, fs_level, c_Form, _, hp, by simp, _, fs_other, c_Form, _, hp, by simp, _, fs_depth, C, Sub.refl, hq⟩
theorem jeq_self {f : Bool → Bool} {t : T} {C : CH} {Q : Kv} (ok : okT t = true) (hd : t.p.depth ≤ 350) (q : Q (.bl (f true)) C) : oEqN f t.d t.d C Q := by
  have hd : deepOk t.p = true := by
    unfold deepOk
    rw [canLay_ok _ ok, decide_eq_true hd]
    rfl
  exact oEqN_T hd hd (by rw [eqv_refl]; exact q)
theorem mid_ok {ex : Kxs} {Dd : EndsC} {B : CH} {s pn pq : Addr} {cs : List (Cn × Int)} {x0 x2 x3 x4 x5 x6 x9 x10 x11 : Option D} (l2 : 2 ≤ cs.length) (l5 : cs.length ≤ 5) (hr : ∀ q ∈ cs, RawQ q) (hp : B pq = some (.lst ((qsCl cs).map clD)))
    (hK : ∀ y3 y4 y5 y6 y9 y10 y11 C', Sub B C' → Dd.nx [x0, some (.ref s), x2, y3, y4, y5, y6, some (.ref pn), some (.ref pq), y9, y10, y11] C') :
    rdSs (GG 199) ex (lawB.drop 2) Dd [x0, some (.ref s), x2, x3, x4, x5, x6, some (.ref pn), some (.ref pq), x9, x10, x11] B := by
  have hsl : 1000000 ≤ sizeLine := by decide
  simp only [lawB, b_law, List.drop]
  rw [rdSs_cons]
  simp_arith [cLc, iSeq]
  refine ⟨_, hp, ?_⟩
  refine forms_lc (n := 184) (B := B) (fun C' s' => s' _ _ hp) cs [] B hr (by simp; omega) Sub.refl fun C1 ps s1 hf => ?_
  rw [List.nil_append]
  intro pf hpf
  have hl := hf.len
  have s2 := s1.trans (sub_new (o := .lst (ps.map D.ref)) hpf)
  have hf2 := hf.sub (sub_new (o := .lst (ps.map D.ref)) hpf)
  have hpf2 : cup C1 pf (.lst (ps.map D.ref)) pf = some (.lst (ps.map D.ref)) := cup_same
  generalize cup C1 pf (.lst (ps.map D.ref)) = C2 at s2 hf2 hpf2
  try dsimp only
  rw [rdSs_cons]
  simp_arith []
  obtain ⟨pa, ea, ha⟩ := hf2.get (i := 0) (by omega)
  obtain ⟨pb, eb, hb⟩ := hf2.get (i := cs.length - 1) (by omega)
  have i0 : L2.atI (ps.map D.ref) 0 = some (.ref pa) := L2.atI_nat (j := 0) (by rw [List.getElem?_map, ea]; rfl)
  have i9 : L2.atI (ps.map D.ref) (-1) = some (.ref pb) := by
    rw [atI_last (by intro e; rw [List.map_eq_nil_iff] at e; rw [e] at hl; simp at hl; omega)]
    rw [← List.getLast?_eq_some_getLast, List.getLast?_map, List.getLast?_eq_getElem?, hl, eb]; rfl
  refine oIxA_lst hpf2 i0 ?_
  refine oIxA_lst hpf2 i9 ?_
  refine ⟨_, _, ⟨rfl, rfl⟩, ?_⟩
  try dsimp only
  rw [rdSs_cons]
  simp_arith [sFor, iRg2, hpf2]
  have hlm : ((ps.map D.ref).length : Int) = (cs.length : Int) := by rw [List.length_map, hl]
  refine ⟨1, (cs.length : Int), ⟨rfl, hlm⟩, ⟨by omega, by omega, by omega, by omega⟩, ?_⟩
  have er : rngD 1 ((cs.length : Int) - 1).toNat = (List.range' (1 - 1) ((cs.length - 2) + 1)).map fun (i : Nat) => D.int (1 + i) := by
    rw [rngD, List.range_eq_range']
    have : ((cs.length : Int) - 1).toNat = (cs.length - 2) + 1 := by omega
    rw [this]
  rw [er]
  have ta : Fil (cs.take 1) (qsCl [cs[0]]) := by
    have : cs.take 1 = [cs[0]] := by
      cases cs with
      | nil => simp at l2
      | cons q cs => rfl
    rw [this]; exact .inl rfl
  have tb : Fil (cs.drop (cs.length - 1)) (qsCl [cs[cs.length - 1]]) := by
    have : cs.drop (cs.length - 1) = [cs[cs.length - 1]] := by
      rw [← List.getElem_cons_drop (by omega : cs.length - 1 < cs.length)]
      rw [show cs.length - 1 + 1 = cs.length by omega, List.drop_length]
    rw [this]; exact .inl rfl
  refine or_loop (B := C2) (ps := ps) l5 hr hf2 hpf2 (fun y q9 q10 C3 s3 h9 h10 => ?_) (cs.length - 2) 1 (qsCl [cs[0]]) (qsCl [cs[cs.length - 1]]) pa pb x3 C2 (by decide) (by omega) Sub.refl ta tb ha hb
  have s4 := s2.trans s3
  have hp3 := s4 _ _ hp
  have fn := nq_ok hr (by omega)
  obtain ⟨ok, sz, dp⟩ := fn.fm (by omega)
  have hlv := ifs_lev fn.ifs fn.fit
  have hsz := fn.sz
  have hln := fn.len
  try dsimp only
  rw [rdSs_cons]
  simp_arith [GG_call]
  refine merged_ok (n := 158) (cs := cs) (fun q hq => (hr q hq).r) (by omega) hp3 ?_
  have en : mergeCls (cs.map fun q => Cl.cif (sett q.1) q.2) = nq cs := rfl
  rw [en]
  try dsimp only
  rw [rdSs_cons]
  simp_arith [GG_call, oLst]
  refine lparts_ok (n := 198) h9 ?_
  refine lparts_ok (n := 198) h10 ?_
  rw [due_parts dp]
  intro pr hpr
  obtain ⟨_, so⟩ := repr_two (C := cup C3 pr (.lst [(dueT (nq cs)).d, (dueT (nq cs)).d])) (p := pr) (Q := fun _ _ => True) hlv fn.fit (by omega) cup_same trivial
  refine (repr_two hlv fn.fit (by omega) cup_same ?_).1
  have s5 := sub_new (o := .lst [(dueT (nq cs)).d, (dueT (nq cs)).d]) hpr
  generalize cup C3 pr (.lst [(dueT (nq cs)).d, (dueT (nq cs)).d]) = C4 at s5
  intro pm hpm
  have em : D.tup [(clsT (nq cs)).d, D.int 1, D.int 1, D.non, D.int 1] = (dueT (nq cs)).d := rfl
  rw [em]
  have s6 := s5.trans (sub_new (o := .lst [(dueT (nq cs)).d]) hpm)
  have hm6 : cup C4 pm (.lst [(dueT (nq cs)).d]) pm = some (.lst [(dueT (nq cs)).d]) := cup_same
  generalize cup C4 pm (.lst [(dueT (nq cs)).d]) = C5 at s6 hm6
  refine ⟨_, hm6, by decide, by decide, (by omega : (2 : Nat) ≤ sizeLine), fun p2 hp2 => ?_⟩
  have er2 : (List.replicate (2 : Int).toNat [(dueT (nq cs)).d]).flatten = [(dueT (nq cs)).d, (dueT (nq cs)).d] := rfl
  rw [er2]
  refine (repr_two hlv fn.fit (by omega) cup_same ?_).1
  have s7 := s6.trans (sub_new (o := .lst [(dueT (nq cs)).d, (dueT (nq cs)).d]) hp2)
  generalize cup C5 p2 (.lst [(dueT (nq cs)).d, (dueT (nq cs)).d]) = C6 at s7
  rw [oEqN_strI so so]
  refine ⟨_, rfl, ?_⟩
  simp only [decide_true, Bool.not_true, Bool.false_eq_true, if_false]
  try dsimp only
  rw [rdSs_cons]
  simp_arith [cLc, iSeq, clsT_d, oLst]
  refine lcL_of clD (fun c => .int (levC c)) trivial (nq cs) (fun c hc => ⟨_, rfl, fun Q' hQ => ?_⟩) (by omega) ?_
  · obtain ⟨k, l, rfl, _⟩ := hlv c hc
    simp_arith! [wipe3, clD, Cl.t, T.d, T.ds]
    exact hQ
  intro pv hpv
  have hv7 : cup C6 pv (.lst ((nq cs).map fun c => .int (levC c))) pv = some (.lst ((levs cs).map D.int)) := by rw [cup_same, levs, List.map_map]; rfl
  have s8 := s7.trans (sub_new (o := .lst ((nq cs).map fun c => .int (levC c))) hpv)
  generalize cup C6 pv (.lst ((nq cs).map fun c => .int (levC c))) = C7 at hv7 s8
  intro pw hpw
  have hw8 : cup C7 pw (.lst [.int 1]) pw = some (.lst ([(1 : Int)].map D.int)) := cup_same
  have hv8 := cup_old (u := .lst [.int 1]) hpw hv7
  have s9 := s8.trans (sub_new (o := .lst [.int 1]) hpw)
  generalize cup C7 pw (.lst [.int 1]) = C8 at hw8 hv8 s9
  refine jeq_ints hv8 hw8 ?_
  refine ⟨_, rfl, ?_⟩
  have h9' := s9 _ _ h9
  have h10' := s9 _ _ h10
  have en2 : normFm (jF (nq cs)) = jF (nq cs) := by
    show ({ jF (nq cs) with cls := normCls (nq cs) 1 } : Fm) = _
    rw [norm_one (.inr rfl)]; rfl
  have nk : ∀ c ∈ (normFm (jF (nq cs))).cls, okCl c := by rw [en2]; exact (fitCls_str fn.fit).2
  have kd : kindsF (jF (nq cs)) = (if levs cs = [1] then [("filter" : Str)] else [("ends" : Str)] : List Str) := kinds_of (nq_ne (by intro e; rw [e] at l2; simp at l2)) hlv (sep_nq cs)
  have last : ∀ ws : List Str, kindsF (jF (nq cs)) = ws → (okT (.tup (ws.map T.str)) = true) → rdSs (GG 199) ex (lawB.drop 8) Dd [x0, some (.ref s), x2, y, some (.ref pf), some (clsT (nq cs)).d, some (T.tup (ws.map T.str)).d, some (.ref pn), some (.ref pq), some (.ref q9), some (.ref q10), x11] C8 := by
    intro ws hws hok
    simp only [lawB, b_law, List.drop]
    rw [rdSs_cons]
    simp_arith [GG_call]
    refine kinds_ok (n := 92) ok sz nk h9' fun C9 s10 => ?_
    have ed : D.tup ((kindsF (normFm (jF (nq cs)))).map D.str) = (T.tup (ws.map T.str)).d := by
      rw [en2, hws]
      simp only [T.d, T.ds_map, List.map_map]
      rfl
    rw [ed]
    refine jeq_self hok ?_ ?_
    · have : ∀ t ∈ ws.map T.str, okT t = true ∧ t.p.depth ≤ 0 := fun t ht => by
        obtain ⟨w, hw, rfl⟩ := List.mem_map.mp ht
        exact ⟨okTs_mem hok ht, Nat.le_refl _⟩
      have q := depths_le this
      show PyData.depthAll _ + 1 ≤ 350
      omega
    refine ⟨_, rfl, ?_⟩
    simp only [Bool.not_true, Bool.false_eq_true, if_false]
    refine ⟨q9, q10, _, _, rfl, rfl, s10 _ _ h9', s10 _ _ h10', ?_⟩
    show W 198 i_Form___eq__ [.ref q9, .ref q10] _ _ _
    refine Form_eq_ok (n := 196) ok ok (s10 _ _ h9') (s10 _ _ h10') ?_
    refine ⟨_, rfl, ?_⟩
    rw [eqv_refl]
    simp only [Bool.not_true, Bool.false_eq_true, if_false]
    simp_arith []
    exact hK _ _ _ _ _ _ _ C9 ((s4.trans s9).trans s10)
  simp only [lawB, b_law, List.drop] at last
  by_cases hlev : levs cs = [1]
  · rw [if_pos hlev] at kd
    simp only [id, hlev, decide_true, if_true]
    have := last [("filter" : Str)] kd (by decide +kernel)
    simp only [List.map_cons, List.map_nil, T.d, T.ds, clsT_d] at this
    exact this
  · rw [if_neg hlev] at kd
    simp only [id, hlev, decide_false, Bool.false_eq_true, if_false]
    have := last [("ends" : Str)] kd (by decide +kernel)
    simp only [List.map_cons, List.map_nil, T.d, T.ds, clsT_d] at this
    exact this
theorem turn_ok {N : Nat} {ex : Kxs} {Dd : EndsC} {C0 C : CH} {s : Addr} {j : Int} {x0 x3 x4 x5 x6 x7 x8 x9 x10 x11 : Option D} (h : St C0 C s (N + 900))
    (hK : ∀ y3 y4 y5 y6 y7 y8 y9 y10 y11 C', St C0 C' s N → Dd.nx [x0, some (.ref s), some (.int j), y3, y4, y5, y6, y7, y8, y9, y10, y11] C') :
    rdSs (GG 199) ex lawB Dd [x0, some (.ref s), some (.int j), x3, x4, x5, x6, x7, x8, x9, x10, x11] C := by
  have hsl : 1000000 ≤ sizeLine := by decide
  simp only [lawB, b_law]
  rw [rdSs_cons]
  simp_arith [cLc, iRg1, GG_call, oLst]
  refine ⟨by decide, by decide, ?_⟩
  have hjt : (rngD 0 (3 : Int).toNat).length = 3 := by simp [rngD]
  refine lcL_run (fun k C => St C0 C s (N + 800 + 12 * k)) (fun d => ∃ z, d = .str z ∧ goodNm z) (fun _ _ _ => trivial) _ [] C ?_ (fun _ h => nomatch h) ?_ ?_ ?_
  · rw [hjt]; exact h.le (by omega)
  · rw [hjt]; simp only [List.length_nil]; omega
  · intro acc C2 h2 hla hR pn hpn pq hpq
    obtain ⟨zs, rfl, hg⟩ := names_of acc hR
    rw [hjt] at hla
    simp only [List.length_nil, List.length_map] at hla
    have hz : Names zs := ⟨hg, by omega, by omega⟩
    have h3 := ((h2.alloc (o := .lst (zs.map D.str)) hpn).alloc (o := .lst ((qsCl []).map clD)) hpq)
    have npq : pn ≠ pq := fun e => by rw [← e, cup_same] at hpq; cases hpq
    have q2 : C2 pq = none := by rw [cup_ne (Ne.symm npq)] at hpq; exact hpq
    have pn0 := h2.no hpn
    have pq0 : cup C0 pn (.lst (zs.map D.str)) pq = none := by rw [cup_ne (Ne.symm npq)]; exact h2.no q2
    refine ⟨_, _, ⟨rfl, rfl⟩, ?_⟩
    try dsimp only
    rw [rdSs_cons]
    simp_arith [sFor, iRg1, GG_call]
    refine draw_ok (n := 198) (N := N + 799) (h3.le (by omega)) (by decide) (by decide) fun i C3 i0 i1 h4 => ?_
    simp_arith []
    refine ⟨by omega, by omega, ?_⟩
    have hjl : (rngD 0 (2 + i).toNat).length = (2 + i).toNat := by simp [rngD]
    have hn' : cup C0 pn (.lst (zs.map D.str)) pn = some (.lst (zs.map D.str)) := cup_same
    refine draw_loop2 (N := N) (m := (2 + i).toNat) hn' hz pq0 (rngD 0 (2 + i).toNat) [] _ C3 (by rw [hjl]; simp) (by omega) (fun _ h => (nomatch h)) (h4.le (by rw [hjl]; omega)) fun cs y3 C4 hcl hr h5 => ?_
    have hq5 : C4 pq = some (.lst ((qsCl cs).map clD)) := h5.subC _ _ cup_same
    have h6 := (h5.drop (sub_new pq0)).drop (sub_new pn0)
    exact mid_ok (by omega) (by omega) hr hq5 fun z3 z4 z5 z6 z9 z10 z11 C' s' => hK _ _ _ _ _ _ _ _ _ C' (h6.sub s')
  · intro d hd k C1 h1
    refine ⟨_, rfl, fun Q' hQ => ?_⟩
    simp_arith [GG_call]
    refine ⟨_, rfl, ?_⟩
    refine name_ok (n := 196) (N := N + 800 + 12 * k) (h1.le (by omega)) fun z C5 g h2 => hQ _ C5 ⟨z, rfl, g⟩ h2
theorem law_loop {N : Nat} {ex : Kxs} {Dd : EndsC} {C0 : CH} {s : Addr} {x0 : Option D} (hK : ∀ σ C', Dd.nx σ C') :
    ∀ (js : List Int) (x2 x3 x4 x5 x6 x7 x8 x9 x10 x11 : Option D) (C : CH), St C0 C s (N + 900 * js.length) → forL (hT (.nm 2)) (rdSs (GG 199) ex lawB) (fun _ => True) Dd (js.map D.int) [x0, some (.ref s), x2, x3, x4, x5, x6, x7, x8, x9, x10, x11] C
  | [], x2, x3, x4, x5, x6, x7, x8, x9, x10, x11, C, h => ⟨trivial, hK _ C⟩
  | j :: js, x2, x3, x4, x5, x6, x7, x8, x9, x10, x11, C, h => by
    refine ⟨trivial, _, rfl, ?_⟩
    simp only [List.length_cons] at h
    exact turn_ok (N := N + 900 * js.length) (h.le (by omega)) fun y3 y4 y5 y6 y7 y8 y9 y10 y11 C' h' => law_loop hK js _ y3 y4 y5 y6 y7 y8 y9 y10 y11 C' h'
theorem law_ok : LawTrue prog kit 200 i_law := by
  intro ns hl hb
  show W (199 + 1) i_law _ _ _ _
  rw [W_law]
  unfold b_law
  rw [rdSs_cons]
  simp_arith [GG_call]
  refine begin_ok (n := 198) hl fun s C1 h1 => ?_
  generalize hC0 : (fun _ => none : CH) = C0 at h1
  rw [rdSs_cons]
  simp_arith [sFor, iRg1]
  refine ⟨by decide, by decide, ?_⟩
  have e : rngD 0 (4 : Int).toNat = [0, 1, 2, 3].map D.int := rfl
  rw [e]
  refine law_loop (N := 1000) (C0 := C0) (fun σ C' => ?_) [0, 1, 2, 3] _ _ _ _ _ _ _ _ _ _ C1 (h1.le (by decide))
  dsimp only
  rw [rdSs_cons]
  simp_arith []
  exact ⟨C', Sub.refl⟩

end My
namespace My
open PySem L3
open L2 (inClass defArgs defBody defScope)
set_option maxHeartbeats 0 in
theorem all_mk {l : PySem.W.OpenLaw} {w : World} {K : PySem.W.Frag} {h : Heap} {mg : Str → Option Value} {fa C0 C1 C2 C3 C4 f0 f1 f2 f3 f4 f5 f6 f7 f8 f9 f10 f11 f12 f13 f14 f15 f16 f17 f18 f19 f20 f21 f22 f23 f24 f25 f26 f27 f28 f29 f30 f31 f32 f33 f34 f35 f36 f37 f38 f39 f40 f41 f42 f43 f44 f45 f46 f47 f48 f49 f50 f51 f52 f53 f54 f55 f56 f57 : Addr} (X : K.In h) (G : h.Ns mainGlobals mg) (hfa : mg "law" = some (.ref fa))
    {od0 an0 od1 an1 od2 an2 od3 an3 od4 an4 od5 an5 od6 an6 od7 an7 od8 an8 od9 an9 od10 an10 od11 an11 od12 an12 od13 an13 od14 an14 od15 an15 od16 an16 od17 an17 od18 an18 od19 an19 od20 an20 od21 an21 od22 an22 od23 an23 od24 an24 od25 an25 od26 an26 od27 an27 od28 an28 od29 an29 od30 an30 od31 an31 od32 an32 od33 an33 od34 an34 od35 an35 od36 an36 od37 an37 od38 an38 od39 an39 od40 an40 od41 an41 od42 an42 od43 an43 od44 an44 od45 an45 od46 an46 od47 an47 od48 an48 od49 an49 od50 an50 od51 an51 od52 an52 od53 an53 od54 an54 od55 an55 od56 an56 od57 an57 : Option Addr} {sl0 sl1 sl2 sl3 sl4 sl5 sl6 sl7 sl8 sl9 sl10 sl11 sl12 sl13 sl14 sl15 sl16 sl17 sl18 sl19 sl20 sl21 sl22 sl23 sl24 sl25 sl26 sl27 sl28 sl29 sl30 sl31 sl32 sl33 sl34 sl35 sl36 sl37 sl38 sl39 sl40 sl41 sl42 sl43 sl44 sl45 sl46 sl47 sl48 sl49 sl50 sl51 sl52 sl53 sl54 sl55 sl56 sl57 : Array (Option Value)} {oc0 kV0 dc0 pm0 cd0 ct0 oc1 kV1 dc1 pm1 cd1 ct1 oc2 kV2 dc2 pm2 cd2 ct2 oc3 kV3 dc3 pm3 cd3 ct3 oc4 kV4 dc4 pm4 cd4 ct4 oc5 kV5 dc5 pm5 cd5 ct5 oc6 kV6 dc6 pm6 cd6 ct6 oc7 kV7 dc7 pm7 cd7 ct7 oc8 kV8 dc8 pm8 cd8 ct8 oc9 kV9 dc9 pm9 cd9 ct9 oc10 kV10 dc10 pm10 cd10 ct10 oc11 kV11 dc11 pm11 cd11 ct11 oc12 kV12 dc12 pm12 cd12 ct12 oc13 kV13 dc13 pm13 cd13 ct13 oc14 kV14 dc14 pm14 cd14 ct14 oc15 kV15 dc15 pm15 cd15 ct15 oc16 kV16 dc16 pm16 cd16 ct16 oc17 kV17 dc17 pm17 cd17 ct17 oc18 kV18 dc18 pm18 cd18 ct18 oc19 kV19 dc19 pm19 cd19 ct19 oc20 kV20 dc20 pm20 cd20 ct20 oc21 kV21 dc21 pm21 cd21 ct21 oc22 kV22 dc22 pm22 cd22 ct22 oc23 kV23 dc23 pm23 cd23 ct23 oc24 kV24 dc24 pm24 cd24 ct24 oc25 kV25 dc25 pm25 cd25 ct25 oc26 kV26 dc26 pm26 cd26 ct26 oc27 kV27 dc27 pm27 cd27 ct27 oc28 kV28 dc28 pm28 cd28 ct28 oc29 kV29 dc29 pm29 cd29 ct29 oc30 kV30 dc30 pm30 cd30 ct30 oc31 kV31 dc31 pm31 cd31 ct31 oc32 kV32 dc32 pm32 cd32 ct32 oc33 kV33 dc33 pm33 cd33 ct33 oc34 kV34 dc34 pm34 cd34 ct34 oc35 kV35 dc35 pm35 cd35 ct35 oc36 kV36 dc36 pm36 cd36 ct36 oc37 kV37 dc37 pm37 cd37 ct37 oc38 kV38 dc38 pm38 cd38 ct38 oc39 dc39 pm39 cd39 ct39 oc40 kV40 dc40 pm40 cd40 ct40 oc41 kV41 dc41 pm41 cd41 ct41 oc42 kV42 dc42 pm42 cd42 ct42 oc43 kV43 dc43 pm43 cd43 ct43 oc44 kV44 dc44 pm44 cd44 ct44 oc45 kV45 dc45 pm45 cd45 ct45 oc46 kV46 dc46 pm46 cd46 ct46 oc47 kV47 dc47 pm47 cd47 ct47 oc48 kV48 dc48 pm48 cd48 ct48 oc49 kV49 dc49 pm49 cd49 ct49 oc50 kV50 dc50 pm50 cd50 ct50 oc51 kV51 dc51 pm51 cd51 ct51 oc52 kV52 dc52 pm52 cd52 ct52 oc53 kV53 dc53 pm53 cd53 ct53 oc54 kV54 dc54 pm54 cd54 ct54 oc55 kV55 dc55 pm55 cd55 ct55 oc56 kV56 dc56 pm56 cd56 ct56 oc57 kV57 dc57 pm57 cd57 ct57 : Value} {tk0 tk1 tk2 tk3 tk4 tk5 tk6 tk7 tk8 tk9 tk10 tk11 tk12 tk13 : Tok} {T39 : Addr} {tc39 : Value} {td39 : Option Addr} {tn39 : Nat} {ts39 : Array (Option Value)} {Dk39 : Addr}
    (e0 : PySem.W.nsIn K mainGlobals "LoopError" = some (some (.ref C0)))
    (e1 : PySem.W.nsIn K mainGlobals "NoValue" = some (some (.ref C1)))
    (e2 : PySem.W.nsIn K mainGlobals "NoForm" = some (some (.ref C2)))
    (e3 : PySem.W.nsIn K mainGlobals "NoFusing" = some (some (.ref C3)))
    (e4 : PySem.W.nsIn K mainGlobals "Form" = some (some (.ref C4)))
    (a0 : PySem.W.nsIn K mainGlobals "is_number" = some (some (.ref f0)))
    (l0 : K.lookup f0 = some ⟨oc0, od0, .func (PySem.W.fnOf "is_number" "is_number" (defArgs s0) (defBody s0) (defScope s0) .none kV0 dc0 pm0 an0 cd0 ct0), sl0⟩)
    (c0 : PySem.W.codeIn K cd0 "is_number" = true)
    (k0 : PySem.W.keepIn K (.ref f0) = true)
    (a1 : PySem.W.nsIn K mainGlobals "is_name" = some (some (.ref f1)))
    (l1 : K.lookup f1 = some ⟨oc1, od1, .func (PySem.W.fnOf "is_name" "is_name" (defArgs s1) (defBody s1) (defScope s1) .none kV1 dc1 pm1 an1 cd1 ct1), sl1⟩)
    (c1 : PySem.W.codeIn K cd1 "is_name" = true)
    (k1 : PySem.W.keepIn K (.ref f1) = true)
    (a2 : PySem.W.nsIn K mainGlobals "is_word" = some (some (.ref f2)))
    (l2 : K.lookup f2 = some ⟨oc2, od2, .func (PySem.W.fnOf "is_word" "is_word" (defArgs s2) (defBody s2) (defScope s2) .none kV2 dc2 pm2 an2 cd2 ct2), sl2⟩)
    (c2 : PySem.W.codeIn K cd2 "is_word" = true)
    (k2 : PySem.W.keepIn K (.ref f2) = true)
    (a3 : PySem.W.nsIn K mainGlobals "measured" = some (some (.ref f3)))
    (l3 : K.lookup f3 = some ⟨oc3, od3, .func (PySem.W.fnOf "measured" "measured" (defArgs s3) (defBody s3) (defScope s3) .none kV3 dc3 pm3 an3 cd3 ct3), sl3⟩)
    (c3 : PySem.W.codeIn K cd3 "measured" = true)
    (k3 : PySem.W.keepIn K (.ref f3) = true)
    (a4 : PySem.W.nsIn K mainGlobals "is_value" = some (some (.ref f4)))
    (l4 : K.lookup f4 = some ⟨oc4, od4, .func (PySem.W.fnOf "is_value" "is_value" (defArgs s4) (defBody s4) (defScope s4) .none kV4 dc4 pm4 an4 cd4 ct4), sl4⟩)
    (c4 : PySem.W.codeIn K cd4 "is_value" = true)
    (k4 : PySem.W.keepIn K (.ref f4) = true)
    (a5 : PySem.W.nsIn K mainGlobals "is_term" = some (some (.ref f5)))
    (l5 : K.lookup f5 = some ⟨oc5, od5, .func (PySem.W.fnOf "is_term" "is_term" (defArgs s5) (defBody s5) (defScope s5) .none kV5 dc5 pm5 an5 cd5 ct5), sl5⟩)
    (c5 : PySem.W.codeIn K cd5 "is_term" = true)
    (k5 : PySem.W.keepIn K (.ref f5) = true)
    (a6 : PySem.W.nsIn K mainGlobals "sizes_of" = some (some (.ref f6)))
    (l6 : K.lookup f6 = some ⟨oc6, od6, .func (PySem.W.fnOf "sizes_of" "sizes_of" (defArgs s6) (defBody s6) (defScope s6) .none kV6 dc6 pm6 an6 cd6 ct6), sl6⟩)
    (c6 : PySem.W.codeIn K cd6 "sizes_of" = true)
    (k6 : PySem.W.keepIn K (.ref f6) = true)
    (a7 : PySem.W.nsIn K mainGlobals "highest" = some (some (.ref f7)))
    (l7 : K.lookup f7 = some ⟨oc7, od7, .func (PySem.W.fnOf "highest" "highest" (defArgs s7) (defBody s7) (defScope s7) .none kV7 dc7 pm7 an7 cd7 ct7), sl7⟩)
    (c7 : PySem.W.codeIn K cd7 "highest" = true)
    (k7 : PySem.W.keepIn K (.ref f7) = true)
    (a8 : PySem.W.nsIn K mainGlobals "may_use" = some (some (.ref f8)))
    (l8 : K.lookup f8 = some ⟨oc8, od8, .func (PySem.W.fnOf "may_use" "may_use" (defArgs s8) (defBody s8) (defScope s8) .none kV8 dc8 pm8 an8 cd8 ct8), sl8⟩)
    (c8 : PySem.W.codeIn K cd8 "may_use" = true)
    (k8 : PySem.W.keepIn K (.ref f8) = true)
    (a9 : PySem.W.nsIn K mainGlobals "may_call" = some (some (.ref f9)))
    (l9 : K.lookup f9 = some ⟨oc9, od9, .func (PySem.W.fnOf "may_call" "may_call" (defArgs s9) (defBody s9) (defScope s9) .none kV9 dc9 pm9 an9 cd9 ct9), sl9⟩)
    (c9 : PySem.W.codeIn K cd9 "may_call" = true)
    (k9 : PySem.W.keepIn K (.ref f9) = true)
    (a10 : PySem.W.nsIn K mainGlobals "is_shaped" = some (some (.ref f10)))
    (l10 : K.lookup f10 = some ⟨oc10, od10, .func (PySem.W.fnOf "is_shaped" "is_shaped" (defArgs s10) (defBody s10) (defScope s10) .none kV10 dc10 pm10 an10 cd10 ct10), sl10⟩)
    (c10 : PySem.W.codeIn K cd10 "is_shaped" = true)
    (k10 : PySem.W.keepIn K (.ref f10) = true)
    (a11 : PySem.W.nsIn K mainGlobals "is_condition" = some (some (.ref f11)))
    (l11 : K.lookup f11 = some ⟨oc11, od11, .func (PySem.W.fnOf "is_condition" "is_condition" (defArgs s11) (defBody s11) (defScope s11) .none kV11 dc11 pm11 an11 cd11 ct11), sl11⟩)
    (c11 : PySem.W.codeIn K cd11 "is_condition" = true)
    (k11 : PySem.W.keepIn K (.ref f11) = true)
    (a12 : PySem.W.nsIn K mainGlobals "parts_of" = some (some (.ref f12)))
    (l12 : K.lookup f12 = some ⟨oc12, od12, .func (PySem.W.fnOf "parts_of" "parts_of" (defArgs s12) (defBody s12) (defScope s12) .none kV12 dc12 pm12 an12 cd12 ct12), sl12⟩)
    (c12 : PySem.W.codeIn K cd12 "parts_of" = true)
    (k12 : PySem.W.keepIn K (.ref f12) = true)
    (a13 : PySem.W.nsIn K mainGlobals "asks" = some (some (.ref f13)))
    (l13 : K.lookup f13 = some ⟨oc13, od13, .func (PySem.W.fnOf "asks" "asks" (defArgs s13) (defBody s13) (defScope s13) .none kV13 dc13 pm13 an13 cd13 ct13), sl13⟩)
    (c13 : PySem.W.codeIn K cd13 "asks" = true)
    (k13 : PySem.W.keepIn K (.ref f13) = true)
    (a14 : PySem.W.nsIn K mainGlobals "flat" = some (some (.ref f14)))
    (l14 : K.lookup f14 = some ⟨oc14, od14, .func (PySem.W.fnOf "flat" "flat" (defArgs s14) (defBody s14) (defScope s14) .none kV14 dc14 pm14 an14 cd14 ct14), sl14⟩)
    (c14 : PySem.W.codeIn K cd14 "flat" = true)
    (k14 : PySem.W.keepIn K (.ref f14) = true)
    (a15 : PySem.W.nsIn K mainGlobals "contrary" = some (some (.ref f15)))
    (l15 : K.lookup f15 = some ⟨oc15, od15, .func (PySem.W.fnOf "contrary" "contrary" (defArgs s15) (defBody s15) (defScope s15) .none kV15 dc15 pm15 an15 cd15 ct15), sl15⟩)
    (c15 : PySem.W.codeIn K cd15 "contrary" = true)
    (k15 : PySem.W.keepIn K (.ref f15) = true)
    (a16 : PySem.W.nsIn K mainGlobals "settled" = some (some (.ref f16)))
    (l16 : K.lookup f16 = some ⟨oc16, od16, .func (PySem.W.fnOf "settled" "settled" (defArgs s16) (defBody s16) (defScope s16) .none kV16 dc16 pm16 an16 cd16 ct16), sl16⟩)
    (c16 : PySem.W.codeIn K cd16 "settled" = true)
    (k16 : PySem.W.keepIn K (.ref f16) = true)
    (a17 : PySem.W.nsIn K mainGlobals "value_in" = some (some (.ref f17)))
    (l17 : K.lookup f17 = some ⟨oc17, od17, .func (PySem.W.fnOf "value_in" "value_in" (defArgs s17) (defBody s17) (defScope s17) .none kV17 dc17 pm17 an17 cd17 ct17), sl17⟩)
    (c17 : PySem.W.codeIn K cd17 "value_in" = true)
    (k17 : PySem.W.keepIn K (.ref f17) = true)
    (a18 : PySem.W.nsIn K mainGlobals "emitted_in" = some (some (.ref f18)))
    (l18 : K.lookup f18 = some ⟨oc18, od18, .func (PySem.W.fnOf "emitted_in" "emitted_in" (defArgs s18) (defBody s18) (defScope s18) .none kV18 dc18 pm18 an18 cd18 ct18), sl18⟩)
    (c18 : PySem.W.codeIn K cd18 "emitted_in" = true)
    (k18 : PySem.W.keepIn K (.ref f18) = true)
    (a19 : PySem.W.nsIn K mainGlobals "condition_in" = some (some (.ref f19)))
    (l19 : K.lookup f19 = some ⟨oc19, od19, .func (PySem.W.fnOf "condition_in" "condition_in" (defArgs s19) (defBody s19) (defScope s19) .none kV19 dc19 pm19 an19 cd19 ct19), sl19⟩)
    (c19 : PySem.W.codeIn K cd19 "condition_in" = true)
    (k19 : PySem.W.keepIn K (.ref f19) = true)
    (a20 : PySem.W.nsIn K mainGlobals "level_in" = some (some (.ref f20)))
    (l20 : K.lookup f20 = some ⟨oc20, od20, .func (PySem.W.fnOf "level_in" "level_in" (defArgs s20) (defBody s20) (defScope s20) .none kV20 dc20 pm20 an20 cd20 ct20), sl20⟩)
    (c20 : PySem.W.codeIn K cd20 "level_in" = true)
    (k20 : PySem.W.keepIn K (.ref f20) = true)
    (a21 : PySem.W.nsIn K mainGlobals "clause_in" = some (some (.ref f21)))
    (l21 : K.lookup f21 = some ⟨oc21, od21, .func (PySem.W.fnOf "clause_in" "clause_in" (defArgs s21) (defBody s21) (defScope s21) .none kV21 dc21 pm21 an21 cd21 ct21), sl21⟩)
    (c21 : PySem.W.codeIn K cd21 "clause_in" = true)
    (k21 : PySem.W.keepIn K (.ref f21) = true)
    (a22 : PySem.W.nsIn K mainGlobals "rise" = some (some (.ref f22)))
    (l22 : K.lookup f22 = some ⟨oc22, od22, .func (PySem.W.fnOf "rise" "rise" (defArgs s22) (defBody s22) (defScope s22) .none kV22 dc22 pm22 an22 cd22 ct22), sl22⟩)
    (c22 : PySem.W.codeIn K cd22 "rise" = true)
    (k22 : PySem.W.keepIn K (.ref f22) = true)
    (a23 : PySem.W.nsIn K mainGlobals "tallness" = some (some (.ref f23)))
    (l23 : K.lookup f23 = some ⟨oc23, od23, .func (PySem.W.fnOf "tallness" "tallness" (defArgs s23) (defBody s23) (defScope s23) .none kV23 dc23 pm23 an23 cd23 ct23), sl23⟩)
    (c23 : PySem.W.codeIn K cd23 "tallness" = true)
    (k23 : PySem.W.keepIn K (.ref f23) = true)
    (a24 : PySem.W.nsIn K mainGlobals "tallest_in" = some (some (.ref f24)))
    (l24 : K.lookup f24 = some ⟨oc24, od24, .func (PySem.W.fnOf "tallest_in" "tallest_in" (defArgs s24) (defBody s24) (defScope s24) .none kV24 dc24 pm24 an24 cd24 ct24), sl24⟩)
    (c24 : PySem.W.codeIn K cd24 "tallest_in" = true)
    (k24 : PySem.W.keepIn K (.ref f24) = true)
    (a25 : PySem.W.nsIn K mainGlobals "height_of" = some (some (.ref f25)))
    (l25 : K.lookup f25 = some ⟨oc25, od25, .func (PySem.W.fnOf "height_of" "height_of" (defArgs s25) (defBody s25) (defScope s25) .none kV25 dc25 pm25 an25 cd25 ct25), sl25⟩)
    (c25 : PySem.W.codeIn K cd25 "height_of" = true)
    (k25 : PySem.W.keepIn K (.ref f25) = true)
    (a26 : PySem.W.nsIn K mainGlobals "top_of" = some (some (.ref f26)))
    (l26 : K.lookup f26 = some ⟨oc26, od26, .func (PySem.W.fnOf "top_of" "top_of" (defArgs s26) (defBody s26) (defScope s26) .none kV26 dc26 pm26 an26 cd26 ct26), sl26⟩)
    (c26 : PySem.W.codeIn K cd26 "top_of" = true)
    (k26 : PySem.W.keepIn K (.ref f26) = true)
    (a27 : PySem.W.nsIn K mainGlobals "asks_in" = some (some (.ref f27)))
    (l27 : K.lookup f27 = some ⟨oc27, od27, .func (PySem.W.fnOf "asks_in" "asks_in" (defArgs s27) (defBody s27) (defScope s27) .none kV27 dc27 pm27 an27 cd27 ct27), sl27⟩)
    (c27 : PySem.W.codeIn K cd27 "asks_in" = true)
    (k27 : PySem.W.keepIn K (.ref f27) = true)
    (a28 : PySem.W.nsIn K mainGlobals "need_joining" = some (some (.ref f28)))
    (l28 : K.lookup f28 = some ⟨oc28, od28, .func (PySem.W.fnOf "need" "need" (defArgs s28) (defBody s28) (defScope s28) .none kV28 dc28 pm28 an28 cd28 ct28), sl28⟩)
    (c28 : PySem.W.codeIn K cd28 "need" = true)
    (k28 : PySem.W.keepIn K (.ref f28) = true)
    (a29 : PySem.W.nsIn K mainGlobals "need_joinable" = some (some (.ref f29)))
    (l29 : K.lookup f29 = some ⟨oc29, od29, .func (PySem.W.fnOf "need_joinable" "need_joinable" (defArgs s29) (defBody s29) (defScope s29) .none kV29 dc29 pm29 an29 cd29 ct29), sl29⟩)
    (c29 : PySem.W.codeIn K cd29 "need_joinable" = true)
    (k29 : PySem.W.keepIn K (.ref f29) = true)
    (a30 : PySem.W.nsIn K mainGlobals "chained" = some (some (.ref f30)))
    (l30 : K.lookup f30 = some ⟨oc30, od30, .func (PySem.W.fnOf "chained" "chained" (defArgs s30) (defBody s30) (defScope s30) .none kV30 dc30 pm30 an30 cd30 ct30), sl30⟩)
    (c30 : PySem.W.codeIn K cd30 "chained" = true)
    (k30 : PySem.W.keepIn K (.ref f30) = true)
    (a31 : PySem.W.nsIn K mainGlobals "standings" = some (some (.ref f31)))
    (l31 : K.lookup f31 = some ⟨oc31, od31, .func (PySem.W.fnOf "standings" "standings" (defArgs s31) (defBody s31) (defScope s31) .none kV31 dc31 pm31 an31 cd31 ct31), sl31⟩)
    (c31 : PySem.W.codeIn K cd31 "standings" = true)
    (k31 : PySem.W.keepIn K (.ref f31) = true)
    (a32 : PySem.W.nsIn K mainGlobals "once_settled" = some (some (.ref f32)))
    (l32 : K.lookup f32 = some ⟨oc32, od32, .func (PySem.W.fnOf "once_settled" "once_settled" (defArgs s32) (defBody s32) (defScope s32) .none kV32 dc32 pm32 an32 cd32 ct32), sl32⟩)
    (c32 : PySem.W.codeIn K cd32 "once_settled" = true)
    (k32 : PySem.W.keepIn K (.ref f32) = true)
    (a33 : PySem.W.nsIn K mainGlobals "normal_clauses" = some (some (.ref f33)))
    (l33 : K.lookup f33 = some ⟨oc33, od33, .func (PySem.W.fnOf "normal_clauses" "normal_clauses" (defArgs s33) (defBody s33) (defScope s33) .none kV33 dc33 pm33 an33 cd33 ct33), sl33⟩)
    (c33 : PySem.W.codeIn K cd33 "normal_clauses" = true)
    (k33 : PySem.W.keepIn K (.ref f33) = true)
    (a34 : PySem.W.nsIn K mainGlobals "may_emit" = some (some (.ref f34)))
    (l34 : K.lookup f34 = some ⟨oc34, od34, .func (PySem.W.fnOf "may_emit" "may_emit" (defArgs s34) (defBody s34) (defScope s34) .none kV34 dc34 pm34 an34 cd34 ct34), sl34⟩)
    (c34 : PySem.W.codeIn K cd34 "may_emit" = true)
    (k34 : PySem.W.keepIn K (.ref f34) = true)
    (a35 : PySem.W.nsIn K mainGlobals "is_level" = some (some (.ref f35)))
    (l35 : K.lookup f35 = some ⟨oc35, od35, .func (PySem.W.fnOf "is_level" "is_level" (defArgs s35) (defBody s35) (defScope s35) .none kV35 dc35 pm35 an35 cd35 ct35), sl35⟩)
    (c35 : PySem.W.codeIn K cd35 "is_level" = true)
    (k35 : PySem.W.keepIn K (.ref f35) = true)
    (a36 : PySem.W.nsIn K mainGlobals "is_clause" = some (some (.ref f36)))
    (l36 : K.lookup f36 = some ⟨oc36, od36, .func (PySem.W.fnOf "is_clause" "is_clause" (defArgs s36) (defBody s36) (defScope s36) .none kV36 dc36 pm36 an36 cd36 ct36), sl36⟩)
    (c36 : PySem.W.codeIn K cd36 "is_clause" = true)
    (k36 : PySem.W.keepIn K (.ref f36) = true)
    (a37 : PySem.W.nsIn K mainGlobals "need_forms" = some (some (.ref f37)))
    (l37 : K.lookup f37 = some ⟨oc37, od37, .func (PySem.W.fnOf "need" "need" (defArgs s37) (defBody s37) (defScope s37) .none kV37 dc37 pm37 an37 cd37 ct37), sl37⟩)
    (c37 : PySem.W.codeIn K cd37 "need" = true)
    (k37 : PySem.W.keepIn K (.ref f37) = true)
    (a38 : PySem.W.nsIn K mainGlobals "walked" = some (some (.ref f38)))
    (l38 : K.lookup f38 = some ⟨oc38, od38, .func (PySem.W.fnOf "walked" "walked" (defArgs s38) (defBody s38) (defScope s38) .none kV38 dc38 pm38 an38 cd38 ct38), sl38⟩)
    (c38 : PySem.W.codeIn K cd38 "walked" = true)
    (k38 : PySem.W.keepIn K (.ref f38) = true)
    (a39 : PySem.W.findIn K (.ref C4) "__init__" = some (some (.ref f39)))
    (i39 : PySem.W.isFn K (.ref f39) = true)
    (l39 : K.lookup f39 = some ⟨oc39, od39, .func (PySem.W.fnOf "__init__" "Form.__init__" (defArgs s39) (defBody s39) (defScope s39) (.ref T39) (.ref Dk39) dc39 pm39 an39 cd39 ct39), sl39⟩)
    (t39 : K.lookup T39 = some ⟨tc39, td39, .seq #[.none] tn39, ts39⟩)
    (kd39_0 : PySem.W.nsIn K Dk39 "other" = some (some .none))
    (c39 : PySem.W.codeIn K cd39 "Form.__init__" = true)
    (k39 : PySem.W.keepIn K (.ref f39) = true)
    (a40 : PySem.W.findIn K (.ref C4) "parts" = some (some (.ref f40)))
    (i40 : PySem.W.isFn K (.ref f40) = true)
    (l40 : K.lookup f40 = some ⟨oc40, od40, .func (PySem.W.fnOf "parts" "Form.parts" (defArgs s40) (defBody s40) (defScope s40) .none kV40 dc40 pm40 an40 cd40 ct40), sl40⟩)
    (c40 : PySem.W.codeIn K cd40 "Form.parts" = true)
    (k40 : PySem.W.keepIn K (.ref f40) = true)
    (a41 : PySem.W.findIn K (.ref C4) "normal" = some (some (.ref f41)))
    (i41 : PySem.W.isFn K (.ref f41) = true)
    (l41 : K.lookup f41 = some ⟨oc41, od41, .func (PySem.W.fnOf "normal" "Form.normal" (defArgs s41) (defBody s41) (defScope s41) .none kV41 dc41 pm41 an41 cd41 ct41), sl41⟩)
    (c41 : PySem.W.codeIn K cd41 "Form.normal" = true)
    (k41 : PySem.W.keepIn K (.ref f41) = true)
    (a42 : PySem.W.findIn K (.ref C4) "__len__" = some (some (.ref f42)))
    (i42 : PySem.W.isFn K (.ref f42) = true)
    (l42 : K.lookup f42 = some ⟨oc42, od42, .func (PySem.W.fnOf "__len__" "Form.__len__" (defArgs s42) (defBody s42) (defScope s42) .none kV42 dc42 pm42 an42 cd42 ct42), sl42⟩)
    (c42 : PySem.W.codeIn K cd42 "Form.__len__" = true)
    (k42 : PySem.W.keepIn K (.ref f42) = true)
    (a43 : PySem.W.findIn K (.ref C4) "__eq__" = some (some (.ref f43)))
    (i43 : PySem.W.isFn K (.ref f43) = true)
    (l43 : K.lookup f43 = some ⟨oc43, od43, .func (PySem.W.fnOf "__eq__" "Form.__eq__" (defArgs s43) (defBody s43) (defScope s43) .none kV43 dc43 pm43 an43 cd43 ct43), sl43⟩)
    (c43 : PySem.W.codeIn K cd43 "Form.__eq__" = true)
    (k43 : PySem.W.keepIn K (.ref f43) = true)
    (a44 : PySem.W.findIn K (.ref C4) "__or__" = some (some (.ref f44)))
    (i44 : PySem.W.isFn K (.ref f44) = true)
    (l44 : K.lookup f44 = some ⟨oc44, od44, .func (PySem.W.fnOf "__or__" "Form.__or__" (defArgs s44) (defBody s44) (defScope s44) .none kV44 dc44 pm44 an44 cd44 ct44), sl44⟩)
    (c44 : PySem.W.codeIn K cd44 "Form.__or__" = true)
    (k44 : PySem.W.keepIn K (.ref f44) = true)
    (a45 : PySem.W.nsIn K mainGlobals "kinds" = some (some (.ref f45)))
    (l45 : K.lookup f45 = some ⟨oc45, od45, .func (PySem.W.fnOf "kinds" "kinds" (defArgs s45) (defBody s45) (defScope s45) .none kV45 dc45 pm45 an45 cd45 ct45), sl45⟩)
    (c45 : PySem.W.codeIn K cd45 "kinds" = true)
    (k45 : PySem.W.keepIn K (.ref f45) = true)
    (a46 : PySem.W.nsIn K mainGlobals "_law_begin" = some (some (.ref f46)))
    (l46 : K.lookup f46 = some ⟨oc46, od46, .func (PySem.W.fnOf "_law_begin" "_law_begin" (defArgs s46) (defBody s46) (defScope s46) .none kV46 dc46 pm46 an46 cd46 ct46), sl46⟩)
    (c46 : PySem.W.codeIn K cd46 "_law_begin" = true)
    (k46 : PySem.W.keepIn K (.ref f46) = true)
    (a47 : PySem.W.nsIn K mainGlobals "_law_draw" = some (some (.ref f47)))
    (l47 : K.lookup f47 = some ⟨oc47, od47, .func (PySem.W.fnOf "_law_draw" "_law_draw" (defArgs s47) (defBody s47) (defScope s47) .none kV47 dc47 pm47 an47 cd47 ct47), sl47⟩)
    (c47 : PySem.W.codeIn K cd47 "_law_draw" = true)
    (k47 : PySem.W.keepIn K (.ref f47) = true)
    (a48 : PySem.W.nsIn K mainGlobals "_law_pick" = some (some (.ref f48)))
    (l48 : K.lookup f48 = some ⟨oc48, od48, .func (PySem.W.fnOf "_law_pick" "_law_pick" (defArgs s48) (defBody s48) (defScope s48) .none kV48 dc48 pm48 an48 cd48 ct48), sl48⟩)
    (c48 : PySem.W.codeIn K cd48 "_law_pick" = true)
    (k48 : PySem.W.keepIn K (.ref f48) = true)
    (a49 : PySem.W.nsIn K mainGlobals "_law_name" = some (some (.ref f49)))
    (l49 : K.lookup f49 = some ⟨oc49, od49, .func (PySem.W.fnOf "_law_name" "_law_name" (defArgs s49) (defBody s49) (defScope s49) .none kV49 dc49 pm49 an49 cd49 ct49), sl49⟩)
    (c49 : PySem.W.codeIn K cd49 "_law_name" = true)
    (k49 : PySem.W.keepIn K (.ref f49) = true)
    (a50 : PySem.W.nsIn K mainGlobals "_law_height" = some (some (.ref f50)))
    (l50 : K.lookup f50 = some ⟨oc50, od50, .func (PySem.W.fnOf "_law_height" "_law_height" (defArgs s50) (defBody s50) (defScope s50) .none kV50 dc50 pm50 an50 cd50 ct50), sl50⟩)
    (c50 : PySem.W.codeIn K cd50 "_law_height" = true)
    (k50 : PySem.W.keepIn K (.ref f50) = true)
    (a51 : PySem.W.nsIn K mainGlobals "_law_value" = some (some (.ref f51)))
    (l51 : K.lookup f51 = some ⟨oc51, od51, .func (PySem.W.fnOf "_law_value" "_law_value" (defArgs s51) (defBody s51) (defScope s51) .none kV51 dc51 pm51 an51 cd51 ct51), sl51⟩)
    (c51 : PySem.W.codeIn K cd51 "_law_value" = true)
    (k51 : PySem.W.keepIn K (.ref f51) = true)
    (a52 : PySem.W.nsIn K mainGlobals "_law_term" = some (some (.ref f52)))
    (l52 : K.lookup f52 = some ⟨oc52, od52, .func (PySem.W.fnOf "_law_term" "_law_term" (defArgs s52) (defBody s52) (defScope s52) .none kV52 dc52 pm52 an52 cd52 ct52), sl52⟩)
    (c52 : PySem.W.codeIn K cd52 "_law_term" = true)
    (k52 : PySem.W.keepIn K (.ref f52) = true)
    (a53 : PySem.W.nsIn K mainGlobals "_law_condition" = some (some (.ref f53)))
    (l53 : K.lookup f53 = some ⟨oc53, od53, .func (PySem.W.fnOf "_law_condition" "_law_condition" (defArgs s53) (defBody s53) (defScope s53) .none kV53 dc53 pm53 an53 cd53 ct53), sl53⟩)
    (c53 : PySem.W.codeIn K cd53 "_law_condition" = true)
    (k53 : PySem.W.keepIn K (.ref f53) = true)
    (a54 : PySem.W.nsIn K mainGlobals "_law_parts" = some (some (.ref f54)))
    (l54 : K.lookup f54 = some ⟨oc54, od54, .func (PySem.W.fnOf "_law_parts" "_law_parts" (defArgs s54) (defBody s54) (defScope s54) .none kV54 dc54 pm54 an54 cd54 ct54), sl54⟩)
    (c54 : PySem.W.codeIn K cd54 "_law_parts" = true)
    (k54 : PySem.W.keepIn K (.ref f54) = true)
    (a55 : PySem.W.nsIn K mainGlobals "_law_flat" = some (some (.ref f55)))
    (l55 : K.lookup f55 = some ⟨oc55, od55, .func (PySem.W.fnOf "_law_flat" "_law_flat" (defArgs s55) (defBody s55) (defScope s55) .none kV55 dc55 pm55 an55 cd55 ct55), sl55⟩)
    (c55 : PySem.W.codeIn K cd55 "_law_flat" = true)
    (k55 : PySem.W.keepIn K (.ref f55) = true)
    (a56 : PySem.W.nsIn K mainGlobals "_law_merged" = some (some (.ref f56)))
    (l56 : K.lookup f56 = some ⟨oc56, od56, .func (PySem.W.fnOf "_law_merged" "_law_merged" (defArgs s56) (defBody s56) (defScope s56) .none kV56 dc56 pm56 an56 cd56 ct56), sl56⟩)
    (c56 : PySem.W.codeIn K cd56 "_law_merged" = true)
    (k56 : PySem.W.keepIn K (.ref f56) = true)
    (a57 : PySem.W.nsIn K mainGlobals "law" = some (some (.ref f57)))
    (l57 : K.lookup f57 = some ⟨oc57, od57, .func (PySem.W.fnOf "law" "law" (defArgs s57) (defBody s57) (defScope s57) .none kV57 dc57 pm57 an57 cd57 ct57), sl57⟩)
    (c57 : PySem.W.codeIn K cd57 "law" = true)
    (k57 : PySem.W.keepIn K (.ref f57) = true)
    (gb0 : PySem.W.nsIn K mainGlobals "CAPITALS" = some (some (.str "ABCDEFGHIJKLMNOPQRSTUVWXYZ" tk0)))
    (gb1 : PySem.W.nsIn K mainGlobals "DEEPEST" = some (some (.int 100 tk1)))
    (gb2 : PySem.W.nsIn K mainGlobals "GREATEST_HEIGHT" = some (some (.int 4 tk2)))
    (gb3 : PySem.W.nsIn K mainGlobals "HIGHEST_LEVEL_conditions" = some (some (.int 3 tk3)))
    (gb4 : PySem.W.nsIn K mainGlobals "HIGHEST_LEVEL_joining" = some (some (.int 3 tk4)))
    (gb5 : PySem.W.nsIn K mainGlobals "LETTERS" = some (some (.str "abcdefghijklmnopqrstuvwxyz" tk5)))
    (gb6 : PySem.W.nsIn K mainGlobals "MOST_ASKS_conditions" = some (some (.int 400 tk6)))
    (gb7 : PySem.W.nsIn K mainGlobals "MOST_ASKS_joining" = some (some (.int 400 tk7)))
    (gb8 : PySem.W.nsIn K mainGlobals "MOST_CLAUSES_forms" = some (some (.int 400 tk8)))
    (gb9 : PySem.W.nsIn K mainGlobals "MOST_CLAUSES_joining" = some (some (.int 400 tk9)))
    (gb10 : PySem.W.nsIn K mainGlobals "MOST_HEIGHT" = some (some (.int 4 tk10)))
    (gb11 : PySem.W.nsIn K mainGlobals "MOST_LEVEL" = some (some (.int 3 tk11)))
    (gb12 : PySem.W.nsIn K mainGlobals "MOST_SIGNS" = some (some (.int 8 tk12)))
    (gb13 : PySem.W.nsIn K mainGlobals "SIGNS" = some (some (.str "abcdefghijklmnopqrstuvwxyz0123456789" tk13)))
    (z0 : PySem.W.nsIn K mainGlobals "abs" = some none)
    (z1 : PySem.W.nsIn K mainGlobals "all" = some none)
    (z2 : PySem.W.nsIn K mainGlobals "any" = some none)
    (z3 : PySem.W.nsIn K mainGlobals "bool" = some none)
    (z4 : PySem.W.nsIn K mainGlobals "int" = some none)
    (z5 : PySem.W.nsIn K mainGlobals "isinstance" = some none)
    (z6 : PySem.W.nsIn K mainGlobals "len" = some none)
    (z7 : PySem.W.nsIn K mainGlobals "list" = some none)
    (z8 : PySem.W.nsIn K mainGlobals "max" = some none)
    (z9 : PySem.W.nsIn K mainGlobals "min" = some none)
    (z10 : PySem.W.nsIn K mainGlobals "range" = some none)
    (z11 : PySem.W.nsIn K mainGlobals "repr" = some none)
    (z12 : PySem.W.nsIn K mainGlobals "str" = some none)
    (z13 : PySem.W.nsIn K mainGlobals "sum" = some none)
    (z14 : PySem.W.nsIn K mainGlobals "tuple" = some none)
    (z15 : PySem.W.nsIn K mainGlobals "zip" = some none)
    (xa1 : PySem.W.excIn K C1 [.type "ValueError", .type "Exception", .type "BaseException", .type "object"] "ValueError.__new__" = true)
    (xb1 : PySem.W.keepIn K (.ref C1) = true)
    (xc1 : PySem.W.subIn K (.ref C1) (.type "BaseException") = some true)
    (xd1 : PySem.W.typeIn K (.ref C1) = some (.type "type"))
    (xa2 : PySem.W.excIn K C2 [.type "ValueError", .type "Exception", .type "BaseException", .type "object"] "ValueError.__new__" = true)
    (xb2 : PySem.W.keepIn K (.ref C2) = true)
    (xc2 : PySem.W.subIn K (.ref C2) (.type "BaseException") = some true)
    (xd2 : PySem.W.typeIn K (.ref C2) = some (.type "type"))
    (xa3 : PySem.W.excIn K C3 [.type "ValueError", .type "Exception", .type "BaseException", .type "object"] "ValueError.__new__" = true)
    (xb3 : PySem.W.keepIn K (.ref C3) = true)
    (xc3 : PySem.W.subIn K (.ref C3) (.type "BaseException") = some true)
    (xd3 : PySem.W.typeIn K (.ref C3) = some (.type "type"))
    (cg4 : PySem.W.plainGet K C4 Str.empty = true)
    (cD4 : PySem.W.hasDictIn K C4 = true)
    (co4 : PySem.W.plainOver K C4 = true)
    (cs4 : PySem.W.findIn K (.ref C4) "__setattr__" = some (some (.builtin "object.__setattr__")))
    (na0 : PySem.W.findIn K (.ref C4) "clauses" = some none)
    (na1 : PySem.W.findIn K (.ref C4) "depth" = some none)
    (na2 : PySem.W.findIn K (.ref C4) "level" = some none)
    (na3 : PySem.W.findIn K (.ref C4) "other" = some none)
    (na4 : PySem.W.findIn K (.ref C4) "value" = some none)
    (mk4 : PySem.W.makesIn K C4 = true)
    (kc4 : PySem.W.keepIn K (.ref C4) = true)
    (kh4 : PySem.W.findIn K (.ref C4) "__class__" = some (some (.builtin "object.__class__")))
    (kn4 : PySem.W.specialIn K (.builtin "object.__class__") "__get__" = some (some (.builtin "getset_descriptor.__get__")))
    (kt4 : PySem.W.takesIn K (.builtin "object.__class__") = some true)
    (km4 : PySem.W.mroIn K C4 (.type "object") = some true)
    (ki0 : PySem.W.kitOne K (.type "NoneType") (.ref C4) = some false)
    (ki1 : PySem.W.kitOne K (.type "bool") (.ref C4) = some false)
    (ki2 : PySem.W.kitOne K (.type "int") (.ref C4) = some false)
    (ki3 : PySem.W.kitOne K (.type "str") (.ref C4) = some false)
    (ki4 : PySem.W.kitOne K (.type "tuple") (.ref C4) = some false)
    (ki5 : PySem.W.kitOne K (.type "list") (.ref C4) = some false)
    (ki6 : PySem.W.kitOne K (.type "dict") (.ref C4) = some false)
    (ki7 : PySem.W.kitOne K (.ref C4) (.ref C4) = some true)
    (ki8 : PySem.W.kitOne K (.ref C4) (.type "bool") = some false)
    (ki9 : PySem.W.kitOne K (.ref C4) (.type "int") = some false)
    (ki10 : PySem.W.kitOne K (.ref C4) (.type "str") = some false)
    (ki11 : PySem.W.kitOne K (.ref C4) (.type "tuple") = some false)
    (ki12 : PySem.W.kitOne K (.ref C4) (.type "list") = some false)
    (on4 : PySem.W.findIn K (.ref C4) "__ne__" = some (some (.builtin "object.__ne__")))
    (oo4 : PySem.W.mroIn K C4 (.type "object") = some true)
    (sf4 : PySem.W.selfFirst K C4 = true)
    (S : LawTrue prog kit 200 57) : ∃ fd : FuncData, (∀ (s : Shared) (v : Value), BindsTo s fd ⟨[v], []⟩ [("_law_script", v)]) ∧ ∀ base : Heap, K.In base → base.Ns mainGlobals mg → FnOkG l.prog w K mg base (L2.CX l.prog w) (200 + 10) fa fd ["_law_script"] (spL K) := by
  have e := hfa.symm.trans (PySem.W.mg_of X G a57)
  cases e
  let fd0 : FuncData := PySem.W.fnOf "is_number" "is_number" (defArgs s0) (defBody s0) (defScope s0) .none kV0 dc0 pm0 an0 cd0 ct0
  let fd1 : FuncData := PySem.W.fnOf "is_name" "is_name" (defArgs s1) (defBody s1) (defScope s1) .none kV1 dc1 pm1 an1 cd1 ct1
  let fd2 : FuncData := PySem.W.fnOf "is_word" "is_word" (defArgs s2) (defBody s2) (defScope s2) .none kV2 dc2 pm2 an2 cd2 ct2
  let fd3 : FuncData := PySem.W.fnOf "measured" "measured" (defArgs s3) (defBody s3) (defScope s3) .none kV3 dc3 pm3 an3 cd3 ct3
  let fd4 : FuncData := PySem.W.fnOf "is_value" "is_value" (defArgs s4) (defBody s4) (defScope s4) .none kV4 dc4 pm4 an4 cd4 ct4
  let fd5 : FuncData := PySem.W.fnOf "is_term" "is_term" (defArgs s5) (defBody s5) (defScope s5) .none kV5 dc5 pm5 an5 cd5 ct5
  let fd6 : FuncData := PySem.W.fnOf "sizes_of" "sizes_of" (defArgs s6) (defBody s6) (defScope s6) .none kV6 dc6 pm6 an6 cd6 ct6
  let fd7 : FuncData := PySem.W.fnOf "highest" "highest" (defArgs s7) (defBody s7) (defScope s7) .none kV7 dc7 pm7 an7 cd7 ct7
  let fd8 : FuncData := PySem.W.fnOf "may_use" "may_use" (defArgs s8) (defBody s8) (defScope s8) .none kV8 dc8 pm8 an8 cd8 ct8
  let fd9 : FuncData := PySem.W.fnOf "may_call" "may_call" (defArgs s9) (defBody s9) (defScope s9) .none kV9 dc9 pm9 an9 cd9 ct9
  let fd10 : FuncData := PySem.W.fnOf "is_shaped" "is_shaped" (defArgs s10) (defBody s10) (defScope s10) .none kV10 dc10 pm10 an10 cd10 ct10
  let fd11 : FuncData := PySem.W.fnOf "is_condition" "is_condition" (defArgs s11) (defBody s11) (defScope s11) .none kV11 dc11 pm11 an11 cd11 ct11
  let fd12 : FuncData := PySem.W.fnOf "parts_of" "parts_of" (defArgs s12) (defBody s12) (defScope s12) .none kV12 dc12 pm12 an12 cd12 ct12
  let fd13 : FuncData := PySem.W.fnOf "asks" "asks" (defArgs s13) (defBody s13) (defScope s13) .none kV13 dc13 pm13 an13 cd13 ct13
  let fd14 : FuncData := PySem.W.fnOf "flat" "flat" (defArgs s14) (defBody s14) (defScope s14) .none kV14 dc14 pm14 an14 cd14 ct14
  let fd15 : FuncData := PySem.W.fnOf "contrary" "contrary" (defArgs s15) (defBody s15) (defScope s15) .none kV15 dc15 pm15 an15 cd15 ct15
  let fd16 : FuncData := PySem.W.fnOf "settled" "settled" (defArgs s16) (defBody s16) (defScope s16) .none kV16 dc16 pm16 an16 cd16 ct16
  let fd17 : FuncData := PySem.W.fnOf "value_in" "value_in" (defArgs s17) (defBody s17) (defScope s17) .none kV17 dc17 pm17 an17 cd17 ct17
  let fd18 : FuncData := PySem.W.fnOf "emitted_in" "emitted_in" (defArgs s18) (defBody s18) (defScope s18) .none kV18 dc18 pm18 an18 cd18 ct18
  let fd19 : FuncData := PySem.W.fnOf "condition_in" "condition_in" (defArgs s19) (defBody s19) (defScope s19) .none kV19 dc19 pm19 an19 cd19 ct19
  let fd20 : FuncData := PySem.W.fnOf "level_in" "level_in" (defArgs s20) (defBody s20) (defScope s20) .none kV20 dc20 pm20 an20 cd20 ct20
  let fd21 : FuncData := PySem.W.fnOf "clause_in" "clause_in" (defArgs s21) (defBody s21) (defScope s21) .none kV21 dc21 pm21 an21 cd21 ct21
  let fd22 : FuncData := PySem.W.fnOf "rise" "rise" (defArgs s22) (defBody s22) (defScope s22) .none kV22 dc22 pm22 an22 cd22 ct22
  let fd23 : FuncData := PySem.W.fnOf "tallness" "tallness" (defArgs s23) (defBody s23) (defScope s23) .none kV23 dc23 pm23 an23 cd23 ct23
  let fd24 : FuncData := PySem.W.fnOf "tallest_in" "tallest_in" (defArgs s24) (defBody s24) (defScope s24) .none kV24 dc24 pm24 an24 cd24 ct24
  let fd25 : FuncData := PySem.W.fnOf "height_of" "height_of" (defArgs s25) (defBody s25) (defScope s25) .none kV25 dc25 pm25 an25 cd25 ct25
  let fd26 : FuncData := PySem.W.fnOf "top_of" "top_of" (defArgs s26) (defBody s26) (defScope s26) .none kV26 dc26 pm26 an26 cd26 ct26
  let fd27 : FuncData := PySem.W.fnOf "asks_in" "asks_in" (defArgs s27) (defBody s27) (defScope s27) .none kV27 dc27 pm27 an27 cd27 ct27
  let fd28 : FuncData := PySem.W.fnOf "need" "need" (defArgs s28) (defBody s28) (defScope s28) .none kV28 dc28 pm28 an28 cd28 ct28
  let fd29 : FuncData := PySem.W.fnOf "need_joinable" "need_joinable" (defArgs s29) (defBody s29) (defScope s29) .none kV29 dc29 pm29 an29 cd29 ct29
  let fd30 : FuncData := PySem.W.fnOf "chained" "chained" (defArgs s30) (defBody s30) (defScope s30) .none kV30 dc30 pm30 an30 cd30 ct30
  let fd31 : FuncData := PySem.W.fnOf "standings" "standings" (defArgs s31) (defBody s31) (defScope s31) .none kV31 dc31 pm31 an31 cd31 ct31
  let fd32 : FuncData := PySem.W.fnOf "once_settled" "once_settled" (defArgs s32) (defBody s32) (defScope s32) .none kV32 dc32 pm32 an32 cd32 ct32
  let fd33 : FuncData := PySem.W.fnOf "normal_clauses" "normal_clauses" (defArgs s33) (defBody s33) (defScope s33) .none kV33 dc33 pm33 an33 cd33 ct33
  let fd34 : FuncData := PySem.W.fnOf "may_emit" "may_emit" (defArgs s34) (defBody s34) (defScope s34) .none kV34 dc34 pm34 an34 cd34 ct34
  let fd35 : FuncData := PySem.W.fnOf "is_level" "is_level" (defArgs s35) (defBody s35) (defScope s35) .none kV35 dc35 pm35 an35 cd35 ct35
  let fd36 : FuncData := PySem.W.fnOf "is_clause" "is_clause" (defArgs s36) (defBody s36) (defScope s36) .none kV36 dc36 pm36 an36 cd36 ct36
  let fd37 : FuncData := PySem.W.fnOf "need" "need" (defArgs s37) (defBody s37) (defScope s37) .none kV37 dc37 pm37 an37 cd37 ct37
  let fd38 : FuncData := PySem.W.fnOf "walked" "walked" (defArgs s38) (defBody s38) (defScope s38) .none kV38 dc38 pm38 an38 cd38 ct38
  let fd39 : FuncData := PySem.W.fnOf "__init__" "Form.__init__" (defArgs s39) (defBody s39) (defScope s39) (.ref T39) (.ref Dk39) dc39 pm39 an39 cd39 ct39
  let fd40 : FuncData := PySem.W.fnOf "parts" "Form.parts" (defArgs s40) (defBody s40) (defScope s40) .none kV40 dc40 pm40 an40 cd40 ct40
  let fd41 : FuncData := PySem.W.fnOf "normal" "Form.normal" (defArgs s41) (defBody s41) (defScope s41) .none kV41 dc41 pm41 an41 cd41 ct41
  let fd42 : FuncData := PySem.W.fnOf "__len__" "Form.__len__" (defArgs s42) (defBody s42) (defScope s42) .none kV42 dc42 pm42 an42 cd42 ct42
  let fd43 : FuncData := PySem.W.fnOf "__eq__" "Form.__eq__" (defArgs s43) (defBody s43) (defScope s43) .none kV43 dc43 pm43 an43 cd43 ct43
  let fd44 : FuncData := PySem.W.fnOf "__or__" "Form.__or__" (defArgs s44) (defBody s44) (defScope s44) .none kV44 dc44 pm44 an44 cd44 ct44
  let fd45 : FuncData := PySem.W.fnOf "kinds" "kinds" (defArgs s45) (defBody s45) (defScope s45) .none kV45 dc45 pm45 an45 cd45 ct45
  let fd46 : FuncData := PySem.W.fnOf "_law_begin" "_law_begin" (defArgs s46) (defBody s46) (defScope s46) .none kV46 dc46 pm46 an46 cd46 ct46
  let fd47 : FuncData := PySem.W.fnOf "_law_draw" "_law_draw" (defArgs s47) (defBody s47) (defScope s47) .none kV47 dc47 pm47 an47 cd47 ct47
  let fd48 : FuncData := PySem.W.fnOf "_law_pick" "_law_pick" (defArgs s48) (defBody s48) (defScope s48) .none kV48 dc48 pm48 an48 cd48 ct48
  let fd49 : FuncData := PySem.W.fnOf "_law_name" "_law_name" (defArgs s49) (defBody s49) (defScope s49) .none kV49 dc49 pm49 an49 cd49 ct49
  let fd50 : FuncData := PySem.W.fnOf "_law_height" "_law_height" (defArgs s50) (defBody s50) (defScope s50) .none kV50 dc50 pm50 an50 cd50 ct50
  let fd51 : FuncData := PySem.W.fnOf "_law_value" "_law_value" (defArgs s51) (defBody s51) (defScope s51) .none kV51 dc51 pm51 an51 cd51 ct51
  let fd52 : FuncData := PySem.W.fnOf "_law_term" "_law_term" (defArgs s52) (defBody s52) (defScope s52) .none kV52 dc52 pm52 an52 cd52 ct52
  let fd53 : FuncData := PySem.W.fnOf "_law_condition" "_law_condition" (defArgs s53) (defBody s53) (defScope s53) .none kV53 dc53 pm53 an53 cd53 ct53
  let fd54 : FuncData := PySem.W.fnOf "_law_parts" "_law_parts" (defArgs s54) (defBody s54) (defScope s54) .none kV54 dc54 pm54 an54 cd54 ct54
  let fd55 : FuncData := PySem.W.fnOf "_law_flat" "_law_flat" (defArgs s55) (defBody s55) (defScope s55) .none kV55 dc55 pm55 an55 cd55 ct55
  let fd56 : FuncData := PySem.W.fnOf "_law_merged" "_law_merged" (defArgs s56) (defBody s56) (defScope s56) .none kV56 dc56 pm56 an56 cd56 ct56
  let fd57 : FuncData := PySem.W.fnOf "law" "law" (defArgs s57) (defBody s57) (defScope s57) .none kV57 dc57 pm57 an57 cd57 ct57
  have W : LawN l.prog w L K mg [C0, C1, C2, C3, C4] prog kit [(d0, f0, fd0), (d1, f1, fd1), (d2, f2, fd2), (d3, f3, fd3), (d4, f4, fd4), (d5, f5, fd5), (d6, f6, fd6), (d7, f7, fd7), (d8, f8, fd8), (d9, f9, fd9), (d10, f10, fd10), (d11, f11, fd11), (d12, f12, fd12), (d13, f13, fd13), (d14, f14, fd14), (d15, f15, fd15), (d16, f16, fd16), (d17, f17, fd17), (d18, f18, fd18), (d19, f19, fd19), (d20, f20, fd20), (d21, f21, fd21), (d22, f22, fd22), (d23, f23, fd23), (d24, f24, fd24), (d25, f25, fd25), (d26, f26, fd26), (d27, f27, fd27), (d28, f28, fd28), (d29, f29, fd29), (d30, f30, fd30), (d31, f31, fd31), (d32, f32, fd32), (d33, f33, fd33), (d34, f34, fd34), (d35, f35, fd35), (d36, f36, fd36), (d37, f37, fd37), (d38, f38, fd38), (d39, f39, fd39), (d40, f40, fd40), (d41, f41, fd41), (d42, f42, fd42), (d43, f43, fd43), (d44, f44, fd44), (d45, f45, fd45), (d46, f46, fd46), (d47, f47, fd47), (d48, f48, fd48), (d49, f49, fd49), (d50, f50, fd50), (d51, f51, fd51), (d52, f52, fd52), (d53, f53, fd53), (d54, f54, fd54), (d55, f55, fd55), (d56, f56, fd56), (d57, fa, fd57)] := by
    refine ⟨⟨⟨rfl, ⟨⟨_, _, _, _, _, _, _, _, _, _, rfl, l0, c0⟩, k0⟩, ok0⟩, ⟨rfl, ⟨⟨_, _, _, _, _, _, _, _, _, _, rfl, l1, c1⟩, k1⟩, ok1⟩, ⟨rfl, ⟨⟨_, _, _, _, _, _, _, _, _, _, rfl, l2, c2⟩, k2⟩, ok2⟩, ⟨rfl, ⟨⟨_, _, _, _, _, _, _, _, _, _, rfl, l3, c3⟩, k3⟩, ok3⟩, ⟨rfl, ⟨⟨_, _, _, _, _, _, _, _, _, _, rfl, l4, c4⟩, k4⟩, ok4⟩, ⟨rfl, ⟨⟨_, _, _, _, _, _, _, _, _, _, rfl, l5, c5⟩, k5⟩, ok5⟩, ⟨rfl, ⟨⟨_, _, _, _, _, _, _, _, _, _, rfl, l6, c6⟩, k6⟩, ok6⟩, ⟨rfl, ⟨⟨_, _, _, _, _, _, _, _, _, _, rfl, l7, c7⟩, k7⟩, ok7⟩, ⟨rfl, ⟨⟨_, _, _, _, _, _, _, _, _, _, rfl, l8, c8⟩, k8⟩, ok8⟩, ⟨rfl, ⟨⟨_, _, _, _, _, _, _, _, _, _, rfl, l9, c9⟩, k9⟩, ok9⟩, ⟨rfl, ⟨⟨_, _, _, _, _, _, _, _, _, _, rfl, l10, c10⟩, k10⟩, ok10⟩, ⟨rfl, ⟨⟨_, _, _, _, _, _, _, _, _, _, rfl, l11, c11⟩, k11⟩, ok11⟩, ⟨rfl, ⟨⟨_, _, _, _, _, _, _, _, _, _, rfl, l12, c12⟩, k12⟩, ok12⟩, ⟨rfl, ⟨⟨_, _, _, _, _, _, _, _, _, _, rfl, l13, c13⟩, k13⟩, ok13⟩, ⟨rfl, ⟨⟨_, _, _, _, _, _, _, _, _, _, rfl, l14, c14⟩, k14⟩, ok14⟩, ⟨rfl, ⟨⟨_, _, _, _, _, _, _, _, _, _, rfl, l15, c15⟩, k15⟩, ok15⟩, ⟨rfl, ⟨⟨_, _, _, _, _, _, _, _, _, _, rfl, l16, c16⟩, k16⟩, ok16⟩, ⟨rfl, ⟨⟨_, _, _, _, _, _, _, _, _, _, rfl, l17, c17⟩, k17⟩, ok17⟩, ⟨rfl, ⟨⟨_, _, _, _, _, _, _, _, _, _, rfl, l18, c18⟩, k18⟩, ok18⟩, ⟨rfl, ⟨⟨_, _, _, _, _, _, _, _, _, _, rfl, l19, c19⟩, k19⟩, ok19⟩, ⟨rfl, ⟨⟨_, _, _, _, _, _, _, _, _, _, rfl, l20, c20⟩, k20⟩, ok20⟩, ⟨rfl, ⟨⟨_, _, _, _, _, _, _, _, _, _, rfl, l21, c21⟩, k21⟩, ok21⟩, ⟨rfl, ⟨⟨_, _, _, _, _, _, _, _, _, _, rfl, l22, c22⟩, k22⟩, ok22⟩, ⟨rfl, ⟨⟨_, _, _, _, _, _, _, _, _, _, rfl, l23, c23⟩, k23⟩, ok23⟩, ⟨rfl, ⟨⟨_, _, _, _, _, _, _, _, _, _, rfl, l24, c24⟩, k24⟩, ok24⟩, ⟨rfl, ⟨⟨_, _, _, _, _, _, _, _, _, _, rfl, l25, c25⟩, k25⟩, ok25⟩, ⟨rfl, ⟨⟨_, _, _, _, _, _, _, _, _, _, rfl, l26, c26⟩, k26⟩, ok26⟩, ⟨rfl, ⟨⟨_, _, _, _, _, _, _, _, _, _, rfl, l27, c27⟩, k27⟩, ok27⟩, ⟨rfl, ⟨⟨_, _, _, _, _, _, _, _, _, _, rfl, l28, c28⟩, k28⟩, ok28⟩, ⟨rfl, ⟨⟨_, _, _, _, _, _, _, _, _, _, rfl, l29, c29⟩, k29⟩, ok29⟩, ⟨rfl, ⟨⟨_, _, _, _, _, _, _, _, _, _, rfl, l30, c30⟩, k30⟩, ok30⟩, ⟨rfl, ⟨⟨_, _, _, _, _, _, _, _, _, _, rfl, l31, c31⟩, k31⟩, ok31⟩, ⟨rfl, ⟨⟨_, _, _, _, _, _, _, _, _, _, rfl, l32, c32⟩, k32⟩, ok32⟩, ⟨rfl, ⟨⟨_, _, _, _, _, _, _, _, _, _, rfl, l33, c33⟩, k33⟩, ok33⟩, ⟨rfl, ⟨⟨_, _, _, _, _, _, _, _, _, _, rfl, l34, c34⟩, k34⟩, ok34⟩, ⟨rfl, ⟨⟨_, _, _, _, _, _, _, _, _, _, rfl, l35, c35⟩, k35⟩, ok35⟩, ⟨rfl, ⟨⟨_, _, _, _, _, _, _, _, _, _, rfl, l36, c36⟩, k36⟩, ok36⟩, ⟨rfl, ⟨⟨_, _, _, _, _, _, _, _, _, _, rfl, l37, c37⟩, k37⟩, ok37⟩, ⟨rfl, ⟨⟨_, _, _, _, _, _, _, _, _, _, rfl, l38, c38⟩, k38⟩, ok38⟩, ⟨rfl, ⟨⟨_, _, _, _, _, _, _, _, _, _, rfl, l39, c39⟩, k39⟩, ok39⟩, ⟨rfl, ⟨⟨_, _, _, _, _, _, _, _, _, _, rfl, l40, c40⟩, k40⟩, ok40⟩, ⟨rfl, ⟨⟨_, _, _, _, _, _, _, _, _, _, rfl, l41, c41⟩, k41⟩, ok41⟩, ⟨rfl, ⟨⟨_, _, _, _, _, _, _, _, _, _, rfl, l42, c42⟩, k42⟩, ok42⟩, ⟨rfl, ⟨⟨_, _, _, _, _, _, _, _, _, _, rfl, l43, c43⟩, k43⟩, ok43⟩, ⟨rfl, ⟨⟨_, _, _, _, _, _, _, _, _, _, rfl, l44, c44⟩, k44⟩, ok44⟩, ⟨rfl, ⟨⟨_, _, _, _, _, _, _, _, _, _, rfl, l45, c45⟩, k45⟩, ok45⟩, ⟨rfl, ⟨⟨_, _, _, _, _, _, _, _, _, _, rfl, l46, c46⟩, k46⟩, ok46⟩, ⟨rfl, ⟨⟨_, _, _, _, _, _, _, _, _, _, rfl, l47, c47⟩, k47⟩, ok47⟩, ⟨rfl, ⟨⟨_, _, _, _, _, _, _, _, _, _, rfl, l48, c48⟩, k48⟩, ok48⟩, ⟨rfl, ⟨⟨_, _, _, _, _, _, _, _, _, _, rfl, l49, c49⟩, k49⟩, ok49⟩, ⟨rfl, ⟨⟨_, _, _, _, _, _, _, _, _, _, rfl, l50, c50⟩, k50⟩, ok50⟩, ⟨rfl, ⟨⟨_, _, _, _, _, _, _, _, _, _, rfl, l51, c51⟩, k51⟩, ok51⟩, ⟨rfl, ⟨⟨_, _, _, _, _, _, _, _, _, _, rfl, l52, c52⟩, k52⟩, ok52⟩, ⟨rfl, ⟨⟨_, _, _, _, _, _, _, _, _, _, rfl, l53, c53⟩, k53⟩, ok53⟩, ⟨rfl, ⟨⟨_, _, _, _, _, _, _, _, _, _, rfl, l54, c54⟩, k54⟩, ok54⟩, ⟨rfl, ⟨⟨_, _, _, _, _, _, _, _, _, _, rfl, l55, c55⟩, k55⟩, ok55⟩, ⟨rfl, ⟨⟨_, _, _, _, _, _, _, _, _, _, rfl, l56, c56⟩, k56⟩, ok56⟩, ⟨rfl, ⟨⟨_, _, _, _, _, _, _, _, _, _, rfl, l57, c57⟩, k57⟩, ok57⟩, trivial⟩, ?shape, ?fn, ?cls, ?init, ?own, ?ownL, ?ownB, ?mth, ?glb, ?blt, ?attr, ?kit_, ?kitc, ?exc, ?tch⟩
    case shape => exact ⟨⟨_, rfl, rfl, bindsC_pos (ps := ["thing"]) fun us hl => match us, hl with | [_], _ => rfl⟩, ⟨_, rfl, rfl, bindsC_pos (ps := ["thing"]) fun us hl => match us, hl with | [_], _ => rfl⟩, ⟨_, rfl, rfl, bindsC_pos (ps := ["thing"]) fun us hl => match us, hl with | [_], _ => rfl⟩, ⟨_, rfl, rfl, bindsC_pos (ps := ["thing", "room"]) fun us hl => match us, hl with | [_, _], _ => rfl⟩, ⟨_, rfl, rfl, bindsC_pos (ps := ["thing"]) fun us hl => match us, hl with | [_], _ => rfl⟩, ⟨_, rfl, rfl, bindsC_pos (ps := ["thing"]) fun us hl => match us, hl with | [_], _ => rfl⟩, ⟨_, rfl, rfl, bindsC_pos (ps := ["value"]) fun us hl => match us, hl with | [_], _ => rfl⟩, ⟨_, rfl, rfl, bindsC_pos (ps := ["value"]) fun us hl => match us, hl with | [_], _ => rfl⟩, ⟨_, rfl, rfl, bindsC_pos (ps := ["value", "level", "called"]) fun us hl => match us, hl with | [_, _, _], _ => rfl⟩, ⟨_, rfl, rfl, bindsC_pos (ps := ["term", "level", "called"]) fun us hl => match us, hl with | [_, _, _], _ => rfl⟩, ⟨_, rfl, rfl, bindsC_pos (ps := ["thing"]) fun us hl => match us, hl with | [_], _ => rfl⟩, ⟨_, rfl, rfl, bindsC_pos (ps := ["thing", "level", "called"]) fun us hl => match us, hl with | [_, _, _], _ => rfl⟩, ⟨_, rfl, rfl, bindsC_pos (ps := ["condition"]) fun us hl => match us, hl with | [_], _ => rfl⟩, ⟨_, rfl, rfl, bindsC_pos (ps := ["condition"]) fun us hl => match us, hl with | [_], _ => rfl⟩, ⟨_, rfl, rfl, bindsC_pos (ps := ["word", "parts"]) fun us hl => match us, hl with | [_, _], _ => rfl⟩, ⟨_, rfl, rfl, bindsC_pos (ps := ["word"]) fun us hl => match us, hl with | [_], _ => rfl⟩, ⟨_, rfl, rfl, bindsC_pos (ps := ["condition", "truth"]) fun us hl => match us, hl with | [_, _], _ => rfl⟩, ⟨_, rfl, rfl, bindsC_pos (ps := ["value", "item", "depth"]) fun us hl => match us, hl with | [_, _, _], _ => rfl⟩, ⟨_, rfl, rfl, bindsC_pos (ps := ["what", "item", "depth"]) fun us hl => match us, hl with | [_, _, _], _ => rfl⟩, ⟨_, rfl, rfl, bindsC_pos (ps := ["condition", "item", "depth"]) fun us hl => match us, hl with | [_, _, _], _ => rfl⟩, ⟨_, rfl, rfl, bindsC_pos (ps := ["level", "first", "depth"]) fun us hl => match us, hl with | [_, _, _], _ => rfl⟩, ⟨_, rfl, rfl, bindsC_pos (ps := ["clause", "item", "first", "depth"]) fun us hl => match us, hl with | [_, _, _, _], _ => rfl⟩, ⟨_, rfl, rfl, bindsC_pos (ps := ["condition"]) fun us hl => match us, hl with | [_], _ => rfl⟩, ⟨_, rfl, rfl, bindsC_pos (ps := ["value"]) fun us hl => match us, hl with | [_], _ => rfl⟩, ⟨_, rfl, rfl, bindsC_pos (ps := ["condition"]) fun us hl => match us, hl with | [_], _ => rfl⟩, ⟨_, rfl, rfl, bindsC_pos (ps := ["clause"]) fun us hl => match us, hl with | [_], _ => rfl⟩, ⟨_, rfl, rfl, bindsC_pos (ps := ["clauses", "depth"]) fun us hl => match us, hl with | [_, _], _ => rfl⟩, ⟨_, rfl, rfl, bindsC_pos (ps := ["clauses"]) fun us hl => match us, hl with | [_], _ => rfl⟩, ⟨_, rfl, rfl, bindsC_pos (ps := ["good", "why"]) fun us hl => match us, hl with | [_, _], _ => rfl⟩, ⟨_, rfl, rfl, bindsC_pos (ps := ["one", "other"]) fun us hl => match us, hl with | [_, _], _ => rfl⟩, ⟨_, rfl, rfl, bindsC_pos (ps := ["one", "other"]) fun us hl => match us, hl with | [_, _], _ => rfl⟩, ⟨_, rfl, rfl, bindsC_pos (ps := ["clauses"]) fun us hl => match us, hl with | [_], _ => rfl⟩, ⟨_, rfl, rfl, bindsC_pos (ps := ["clauses", "level"]) fun us hl => match us, hl with | [_, _], _ => rfl⟩, ⟨_, rfl, rfl, bindsC_pos (ps := ["clauses", "level"]) fun us hl => match us, hl with | [_, _], _ => rfl⟩, ⟨_, rfl, rfl, bindsC_pos (ps := ["what", "level", "called"]) fun us hl => match us, hl with | [_, _, _], _ => rfl⟩, ⟨_, rfl, rfl, bindsC_pos (ps := ["thing", "highest_one"]) fun us hl => match us, hl with | [_, _], _ => rfl⟩, ⟨_, rfl, rfl, bindsC_pos (ps := ["thing", "level", "called"]) fun us hl => match us, hl with | [_, _, _], _ => rfl⟩, ⟨_, rfl, rfl, bindsC_pos (ps := ["good", "why"]) fun us hl => match us, hl with | [_, _], _ => rfl⟩, ⟨_, rfl, rfl, bindsC_pos (ps := ["clauses"]) fun us hl => match us, hl with | [_], _ => rfl⟩, ⟨_, rfl, rfl, bindsC_D (ks := []) (ps := ["self", "clauses", "value", "level", "other"]) (Dk := Dk39) (dvs := [L2.V.non]) (ms := [("other", L2.V.non)]) (its := [.none]) (fun {α} us its mv ws => ((us.drop 0).take 1) ++ ((us.drop 1).take 1) ++ ((us.drop 2).take 1) ++ ((its.drop 0).take 1) ++ ((mv.drop 0).take 1)) t39 rfl (.cons (show L2.RelV L2.V.non _ from rfl) (.nil)) (fun q hq => (by simp only [List.mem_cons, List.not_mem_nil, or_false] at hq; rcases hq with rfl; exact ⟨_, kd39_0, rfl⟩)) (fun r1 r2 r3 r4 => ((((((r1.drop 0).take 1)).append ((r1.drop 1).take 1)).append ((r1.drop 2).take 1)).append ((r2.drop 0).take 1)).append ((r3.drop 0).take 1)) (fun us mv ws l1 l2 l3 => match us, mv, ws, l1, l2, l3 with | [a0, a1, a2], [m0], [], _, _, _ => ⟨_, rfl, ⟨_, _, _, _, _, _, rfl, rfl, rfl⟩⟩) (fun H ds vs es zs l1 l2 r1 r2 => match ds, l1, es, l2 with | [_, _, _], _, [], _ => by rcases r1 with _ | ⟨p0, r1⟩; rcases r1 with _ | ⟨p1, r1⟩; rcases r1 with _ | ⟨p2, r1⟩; cases r1; cases r2; exact .cons p0 (.cons p1 (.cons p2 (.cons (.non) (.cons (.non) (.nil))))))⟩, ⟨_, rfl, rfl, bindsC_D (ks := ["other"]) (ps := ["self", "clauses", "value", "level", "other"]) (Dk := Dk39) (dvs := [L2.V.non]) (ms := []) (its := [.none]) (fun {α} us its mv ws => ((us.drop 0).take 1) ++ ((us.drop 1).take 1) ++ ((us.drop 2).take 1) ++ ((us.drop 3).take 1) ++ ((ws.drop 0).take 1)) t39 rfl (.cons (show L2.RelV L2.V.non _ from rfl) (.nil)) (fun q hq => (by cases hq)) (fun r1 r2 r3 r4 => ((((((r1.drop 0).take 1)).append ((r1.drop 1).take 1)).append ((r1.drop 2).take 1)).append ((r1.drop 3).take 1)).append ((r4.drop 0).take 1)) (fun us mv ws l1 l2 l3 => match us, mv, ws, l1, l2, l3 with | [a0, a1, a2, a3], [], [b0], _, _, _ => ⟨_, rfl, rfl⟩) (fun H ds vs es zs l1 l2 r1 r2 => match ds, l1, es, l2 with | [_, _, _, _], _, [_], _ => by rcases r1 with _ | ⟨p0, r1⟩; rcases r1 with _ | ⟨p1, r1⟩; rcases r1 with _ | ⟨p2, r1⟩; rcases r1 with _ | ⟨p3, r1⟩; cases r1; rcases r2 with _ | ⟨q0, r2⟩; cases r2; exact .cons p0 (.cons p1 (.cons p2 (.cons p3 (.cons q0 (.nil))))))⟩, ⟨_, rfl, rfl, bindsC_pos (ps := ["self"]) fun us hl => match us, hl with | [_], _ => rfl⟩, ⟨_, rfl, rfl, bindsC_pos (ps := ["self"]) fun us hl => match us, hl with | [_], _ => rfl⟩, ⟨_, rfl, rfl, bindsC_pos (ps := ["self"]) fun us hl => match us, hl with | [_], _ => rfl⟩, ⟨_, rfl, rfl, bindsC_pos (ps := ["self", "other"]) fun us hl => match us, hl with | [_, _], _ => rfl⟩, ⟨_, rfl, rfl, bindsC_pos (ps := ["self", "other"]) fun us hl => match us, hl with | [_, _], _ => rfl⟩, ⟨_, rfl, rfl, bindsC_pos (ps := ["form"]) fun us hl => match us, hl with | [_], _ => rfl⟩, ⟨_, rfl, rfl, bindsC_pos (ps := ["_law_script"]) fun us hl => match us, hl with | [_], _ => rfl⟩, ⟨_, rfl, rfl, bindsC_pos (ps := ["_law_state", "_law_size"]) fun us hl => match us, hl with | [_, _], _ => rfl⟩, ⟨_, rfl, rfl, bindsC_pos (ps := ["_law_state", "_law_some"]) fun us hl => match us, hl with | [_, _], _ => rfl⟩, ⟨_, rfl, rfl, bindsC_pos (ps := ["_law_state"]) fun us hl => match us, hl with | [_], _ => rfl⟩, ⟨_, rfl, rfl, bindsC_pos (ps := ["_law_value_here"]) fun us hl => match us, hl with | [_], _ => rfl⟩, ⟨_, rfl, rfl, bindsC_pos (ps := ["_law_state", "_law_level", "_law_called"]) fun us hl => match us, hl with | [_, _, _], _ => rfl⟩, ⟨_, rfl, rfl, bindsC_pos (ps := ["_law_state", "_law_names", "_law_level", "_law_called"]) fun us hl => match us, hl with | [_, _, _, _], _ => rfl⟩, ⟨_, rfl, rfl, bindsC_pos (ps := ["_law_state", "_law_names", "_law_level", "_law_called", "_law_room"]) fun us hl => match us, hl with | [_, _, _, _, _], _ => rfl⟩, ⟨_, rfl, rfl, bindsC_pos (ps := ["_law_form"]) fun us hl => match us, hl with | [_], _ => rfl⟩, ⟨_, rfl, rfl, bindsC_pos (ps := ["_law_condition_here"]) fun us hl => match us, hl with | [_], _ => rfl⟩, ⟨_, rfl, rfl, bindsC_pos (ps := ["_law_clauses"]) fun us hl => match us, hl with | [_], _ => rfl⟩, trivial⟩
    case fn => exact ⟨⟨_, rfl, PySem.W.mg_of X G a0⟩, ⟨_, rfl, PySem.W.mg_of X G a1⟩, ⟨_, rfl, PySem.W.mg_of X G a2⟩, ⟨_, rfl, PySem.W.mg_of X G a3⟩, ⟨_, rfl, PySem.W.mg_of X G a4⟩, ⟨_, rfl, PySem.W.mg_of X G a5⟩, ⟨_, rfl, PySem.W.mg_of X G a6⟩, ⟨_, rfl, PySem.W.mg_of X G a7⟩, ⟨_, rfl, PySem.W.mg_of X G a8⟩, ⟨_, rfl, PySem.W.mg_of X G a9⟩, ⟨_, rfl, PySem.W.mg_of X G a10⟩, ⟨_, rfl, PySem.W.mg_of X G a11⟩, ⟨_, rfl, PySem.W.mg_of X G a12⟩, ⟨_, rfl, PySem.W.mg_of X G a13⟩, ⟨_, rfl, PySem.W.mg_of X G a14⟩, ⟨_, rfl, PySem.W.mg_of X G a15⟩, ⟨_, rfl, PySem.W.mg_of X G a16⟩, ⟨_, rfl, PySem.W.mg_of X G a17⟩, ⟨_, rfl, PySem.W.mg_of X G a18⟩, ⟨_, rfl, PySem.W.mg_of X G a19⟩, ⟨_, rfl, PySem.W.mg_of X G a20⟩, ⟨_, rfl, PySem.W.mg_of X G a21⟩, ⟨_, rfl, PySem.W.mg_of X G a22⟩, ⟨_, rfl, PySem.W.mg_of X G a23⟩, ⟨_, rfl, PySem.W.mg_of X G a24⟩, ⟨_, rfl, PySem.W.mg_of X G a25⟩, ⟨_, rfl, PySem.W.mg_of X G a26⟩, ⟨_, rfl, PySem.W.mg_of X G a27⟩, ⟨_, rfl, PySem.W.mg_of X G a28⟩, ⟨_, rfl, PySem.W.mg_of X G a29⟩, ⟨_, rfl, PySem.W.mg_of X G a30⟩, ⟨_, rfl, PySem.W.mg_of X G a31⟩, ⟨_, rfl, PySem.W.mg_of X G a32⟩, ⟨_, rfl, PySem.W.mg_of X G a33⟩, ⟨_, rfl, PySem.W.mg_of X G a34⟩, ⟨_, rfl, PySem.W.mg_of X G a35⟩, ⟨_, rfl, PySem.W.mg_of X G a36⟩, ⟨_, rfl, PySem.W.mg_of X G a37⟩, ⟨_, rfl, PySem.W.mg_of X G a38⟩, ⟨_, rfl, PySem.W.mg_of X G a45⟩, ⟨_, rfl, PySem.W.mg_of X G a46⟩, ⟨_, rfl, PySem.W.mg_of X G a47⟩, ⟨_, rfl, PySem.W.mg_of X G a48⟩, ⟨_, rfl, PySem.W.mg_of X G a49⟩, ⟨_, rfl, PySem.W.mg_of X G a50⟩, ⟨_, rfl, PySem.W.mg_of X G a51⟩, ⟨_, rfl, PySem.W.mg_of X G a52⟩, ⟨_, rfl, PySem.W.mg_of X G a53⟩, ⟨_, rfl, PySem.W.mg_of X G a54⟩, ⟨_, rfl, PySem.W.mg_of X G a55⟩, ⟨_, rfl, PySem.W.mg_of X G a56⟩, trivial⟩
    case cls => exact ⟨⟨_, rfl, PySem.W.mg_of X G e1⟩, ⟨_, rfl, PySem.W.mg_of X G e2⟩, ⟨_, rfl, PySem.W.mg_of X G e3⟩, ⟨_, rfl, PySem.W.mg_of X G e4⟩, trivial⟩
    case init => exact ⟨⟨_, _, rfl, rfl, ⟨mk4, a39, i39, kc4⟩⟩, trivial⟩
    case own => exact ⟨⟨_, _, rfl, rfl, ⟨a43, i43, on4, oo4⟩⟩, trivial⟩
    case ownL => exact ⟨⟨_, _, rfl, rfl, ⟨a42, i42⟩⟩, trivial⟩
    case ownB => exact ⟨⟨_, _, rfl, rfl, ⟨⟨a44, i44, k44⟩, sf4⟩⟩, trivial⟩
    case mth => exact ⟨⟨_, _, rfl, rfl, ⟨cg4, cD4, co4, cs4⟩, ⟨a41, i41, k41⟩⟩, ⟨_, _, rfl, rfl, ⟨cg4, cD4, co4, cs4⟩, ⟨a40, i40, k40⟩⟩, trivial⟩
    case glb => exact ⟨⟨_, _, PySem.W.mg_of X G gb0, relV_str, fun H => .str _⟩, ⟨_, _, PySem.W.mg_of X G gb1, relV_int, fun H => .int _⟩, ⟨_, _, PySem.W.mg_of X G gb2, relV_int, fun H => .int _⟩, ⟨_, _, PySem.W.mg_of X G gb3, relV_int, fun H => .int _⟩, ⟨_, _, PySem.W.mg_of X G gb4, relV_int, fun H => .int _⟩, ⟨_, _, PySem.W.mg_of X G gb5, relV_str, fun H => .str _⟩, ⟨_, _, PySem.W.mg_of X G gb6, relV_int, fun H => .int _⟩, ⟨_, _, PySem.W.mg_of X G gb7, relV_int, fun H => .int _⟩, ⟨_, _, PySem.W.mg_of X G gb8, relV_int, fun H => .int _⟩, ⟨_, _, PySem.W.mg_of X G gb9, relV_int, fun H => .int _⟩, ⟨_, _, PySem.W.mg_of X G gb10, relV_int, fun H => .int _⟩, ⟨_, _, PySem.W.mg_of X G gb11, relV_int, fun H => .int _⟩, ⟨_, _, PySem.W.mg_of X G gb12, relV_int, fun H => .int _⟩, ⟨_, _, PySem.W.mg_of X G gb13, relV_str, fun H => .str _⟩, trivial⟩
    case blt => exact ⟨PySem.W.mg_none_of X G z0, PySem.W.mg_none_of X G z1, PySem.W.mg_none_of X G z2, PySem.W.mg_none_of X G z3, PySem.W.mg_none_of X G z4, PySem.W.mg_none_of X G z5, PySem.W.mg_none_of X G z6, PySem.W.mg_none_of X G z7, PySem.W.mg_none_of X G z8, PySem.W.mg_none_of X G z9, PySem.W.mg_none_of X G z10, PySem.W.mg_none_of X G z11, PySem.W.mg_none_of X G z12, PySem.W.mg_none_of X G z13, PySem.W.mg_none_of X G z14, PySem.W.mg_none_of X G z15, trivial⟩
    case attr => exact ⟨fun Ca e => by cases e; exact ⟨⟨cg4, cD4, co4, cs4⟩, na0⟩, fun Ca e => by cases e; exact ⟨⟨cg4, cD4, co4, cs4⟩, na1⟩, fun Ca e => by cases e; exact ⟨⟨cg4, cD4, co4, cs4⟩, na2⟩, fun Ca e => by cases e; exact ⟨⟨cg4, cD4, co4, cs4⟩, na3⟩, fun Ca e => by cases e; exact ⟨⟨cg4, cD4, co4, cs4⟩, na4⟩, trivial⟩
    case kit_ => exact AllP.app (xs := kitOwn) ⟨kitP_in rfl ki0, kitP_in rfl ki1, kitP_in rfl ki2, kitP_in rfl ki3, kitP_in rfl ki4, kitP_in rfl ki5, kitP_in rfl ki6, kitP_own rfl rfl ki7, kitP_of rfl ki8, kitP_of rfl ki9, kitP_of rfl ki10, kitP_of rfl ki11, kitP_of rfl ki12, trivial⟩ kitPlain_ok
    case kitc => exact AllP.app (xs := kitOwn) ⟨fun _ _ e _ => (nomatch e), fun _ _ e _ => (nomatch e), fun _ _ e _ => (nomatch e), fun _ _ e _ => (nomatch e), fun _ _ e _ => (nomatch e), fun _ _ e _ => (nomatch e), fun _ _ e _ => (nomatch e), fun c Ca e1 e2 => by cases e1; cases e2; exact ⟨⟨cg4, cD4, co4, cs4⟩, kh4, kn4, kt4, km4⟩, fun c Ca e1 e2 => by cases e1; cases e2; exact ⟨⟨cg4, cD4, co4, cs4⟩, kh4, kn4, kt4, km4⟩, fun c Ca e1 e2 => by cases e1; cases e2; exact ⟨⟨cg4, cD4, co4, cs4⟩, kh4, kn4, kt4, km4⟩, fun c Ca e1 e2 => by cases e1; cases e2; exact ⟨⟨cg4, cD4, co4, cs4⟩, kh4, kn4, kt4, km4⟩, fun c Ca e1 e2 => by cases e1; cases e2; exact ⟨⟨cg4, cD4, co4, cs4⟩, kh4, kn4, kt4, km4⟩, fun c Ca e1 e2 => by cases e1; cases e2; exact ⟨⟨cg4, cD4, co4, cs4⟩, kh4, kn4, kt4, km4⟩, trivial⟩ kitPlain_c
    case exc => exact ⟨fun Ca e => by cases e; exact ⟨xa1, xb1, xc1, xd1⟩, fun Ca e => by cases e; exact ⟨xa2, xb2, xc2, xd2⟩, fun Ca e => by cases e; exact ⟨xa3, xb3, xc3, xd3⟩, trivial⟩
    case tch => exact trivial
  exact ⟨fd57, fun s v => .of_eq rfl, fun base _ _ => L3.law_ok W (by rfl) rfl S⟩
end My
open PySem PySem.W PyProof.Rows
set_option maxRecDepth 100000 in
set_option maxHeartbeats 0 in
theorem PySem.Challenge.cw_loopforms_k65_filters_and_takers_joined_holds : PySem.Challenge.rw_loopforms_k65_filters_and_takers_joined.Holds := by
  w_on; o_law; k_head; (case hw => w_witness2)
  k_fill
  refine L3.walk3 (l := PySem.Challenge.rw_loopforms_k65_filters_and_takers_joined) (x := "_law_script") (k := 200 + 10) rfl rfl ⟨rfl, by decide, by decide⟩ (fun w h Y => PySem.W.kIn_of Y) ?F
  case F =>
    intro w mg fa h KX G hmg
    refine' My.all_mk KX G hmg ?e0 ?e1 ?e2 ?e3 ?e4 ?a0 ?l0 ?c0 ?k0 ?a1 ?l1 ?c1 ?k1 ?a2 ?l2 ?c2 ?k2 ?a3 ?l3 ?c3 ?k3 ?a4 ?l4 ?c4 ?k4 ?a5 ?l5 ?c5 ?k5 ?a6 ?l6 ?c6 ?k6 ?a7 ?l7 ?c7 ?k7 ?a8 ?l8 ?c8 ?k8 ?a9 ?l9 ?c9 ?k9 ?a10 ?l10 ?c10 ?k10 ?a11 ?l11 ?c11 ?k11 ?a12 ?l12 ?c12 ?k12 ?a13 ?l13 ?c13 ?k13 ?a14 ?l14 ?c14 ?k14 ?a15 ?l15 ?c15 ?k15 ?a16 ?l16 ?c16 ?k16 ?a17 ?l17 ?c17 ?k17 ?a18 ?l18 ?c18 ?k18 ?a19 ?l19 ?c19 ?k19 ?a20 ?l20 ?c20 ?k20 ?a21 ?l21 ?c21 ?k21 ?a22 ?l22 ?c22 ?k22 ?a23 ?l23 ?c23 ?k23 ?a24 ?l24 ?c24 ?k24 ?a25 ?l25 ?c25 ?k25 ?a26 ?l26 ?c26 ?k26 ?a27 ?l27 ?c27 ?k27 ?a28 ?l28 ?c28 ?k28 ?a29 ?l29 ?c29 ?k29 ?a30 ?l30 ?c30 ?k30 ?a31 ?l31 ?c31 ?k31 ?a32 ?l32 ?c32 ?k32 ?a33 ?l33 ?c33 ?k33 ?a34 ?l34 ?c34 ?k34 ?a35 ?l35 ?c35 ?k35 ?a36 ?l36 ?c36 ?k36 ?a37 ?l37 ?c37 ?k37 ?a38 ?l38 ?c38 ?k38 ?a39 ?i39 ?l39 ?t39 ?kd39_0 ?c39 ?k39 ?a40 ?i40 ?l40 ?c40 ?k40 ?a41 ?i41 ?l41 ?c41 ?k41 ?a42 ?i42 ?l42 ?c42 ?k42 ?a43 ?i43 ?l43 ?c43 ?k43 ?a44 ?i44 ?l44 ?c44 ?k44 ?a45 ?l45 ?c45 ?k45 ?a46 ?l46 ?c46 ?k46 ?a47 ?l47 ?c47 ?k47 ?a48 ?l48 ?c48 ?k48 ?a49 ?l49 ?c49 ?k49 ?a50 ?l50 ?c50 ?k50 ?a51 ?l51 ?c51 ?k51 ?a52 ?l52 ?c52 ?k52 ?a53 ?l53 ?c53 ?k53 ?a54 ?l54 ?c54 ?k54 ?a55 ?l55 ?c55 ?k55 ?a56 ?l56 ?c56 ?k56 ?a57 ?l57 ?c57 ?k57 ?gb0 ?gb1 ?gb2 ?gb3 ?gb4 ?gb5 ?gb6 ?gb7 ?gb8 ?gb9 ?gb10 ?gb11 ?gb12 ?gb13 ?z0 ?z1 ?z2 ?z3 ?z4 ?z5 ?z6 ?z7 ?z8 ?z9 ?z10 ?z11 ?z12 ?z13 ?z14 ?z15 ?xa1 ?xb1 ?xc1 ?xd1 ?xa2 ?xb2 ?xc2 ?xd2 ?xa3 ?xb3 ?xc3 ?xd3 ?cg4 ?cD4 ?co4 ?cs4 ?na0 ?na1 ?na2 ?na3 ?na4 ?mk4 ?kc4 ?kh4 ?kn4 ?kt4 ?km4 ?ki0 ?ki1 ?ki2 ?ki3 ?ki4 ?ki5 ?ki6 ?ki7 ?ki8 ?ki9 ?ki10 ?ki11 ?ki12 ?on4 ?oo4 ?sf4 My.law_ok
    (case e0 => k_is)
    (case e1 => k_is)
    (case e2 => k_is)
    (case e3 => k_is)
    (case e4 => k_is)
    (case a0 => k_is)
    (case l0 => k_is)
    (case c0 => k_is)
    (case k0 => k_is)
    (case a1 => k_is)
    (case l1 => k_is)
    (case c1 => k_is)
    (case k1 => k_is)
    (case a2 => k_is)
    (case l2 => k_is)
    (case c2 => k_is)
    (case k2 => k_is)
    (case a3 => k_is)
    (case l3 => k_is)
    (case c3 => k_is)
    (case k3 => k_is)
    (case a4 => k_is)
    (case l4 => k_is)
    (case c4 => k_is)
    (case k4 => k_is)
    (case a5 => k_is)
    (case l5 => k_is)
    (case c5 => k_is)
    (case k5 => k_is)
    (case a6 => k_is)
    (case l6 => k_is)
    (case c6 => k_is)
    (case k6 => k_is)
    (case a7 => k_is)
    (case l7 => k_is)
    (case c7 => k_is)
    (case k7 => k_is)
    (case a8 => k_is)
    (case l8 => k_is)
    (case c8 => k_is)
    (case k8 => k_is)
    (case a9 => k_is)
    (case l9 => k_is)
    (case c9 => k_is)
    (case k9 => k_is)
    (case a10 => k_is)
    (case l10 => k_is)
    (case c10 => k_is)
    (case k10 => k_is)
    (case a11 => k_is)
    (case l11 => k_is)
    (case c11 => k_is)
    (case k11 => k_is)
    (case a12 => k_is)
    (case l12 => k_is)
    (case c12 => k_is)
    (case k12 => k_is)
    (case a13 => k_is)
    (case l13 => k_is)
    (case c13 => k_is)
    (case k13 => k_is)
    (case a14 => k_is)
    (case l14 => k_is)
    (case c14 => k_is)
    (case k14 => k_is)
    (case a15 => k_is)
    (case l15 => k_is)
    (case c15 => k_is)
    (case k15 => k_is)
    (case a16 => k_is)
    (case l16 => k_is)
    (case c16 => k_is)
    (case k16 => k_is)
    (case a17 => k_is)
    (case l17 => k_is)
    (case c17 => k_is)
    (case k17 => k_is)
    (case a18 => k_is)
    (case l18 => k_is)
    (case c18 => k_is)
    (case k18 => k_is)
    (case a19 => k_is)
    (case l19 => k_is)
    (case c19 => k_is)
    (case k19 => k_is)
    (case a20 => k_is)
    (case l20 => k_is)
    (case c20 => k_is)
    (case k20 => k_is)
    (case a21 => k_is)
    (case l21 => k_is)
    (case c21 => k_is)
    (case k21 => k_is)
    (case a22 => k_is)
    (case l22 => k_is)
    (case c22 => k_is)
    (case k22 => k_is)
    (case a23 => k_is)
    (case l23 => k_is)
    (case c23 => k_is)
    (case k23 => k_is)
    (case a24 => k_is)
    (case l24 => k_is)
    (case c24 => k_is)
    (case k24 => k_is)
    (case a25 => k_is)
    (case l25 => k_is)
    (case c25 => k_is)
    (case k25 => k_is)
    (case a26 => k_is)
    (case l26 => k_is)
    (case c26 => k_is)
    (case k26 => k_is)
    (case a27 => k_is)
    (case l27 => k_is)
    (case c27 => k_is)
    (case k27 => k_is)
    (case a28 => k_is)
    (case l28 => k_is)
    (case c28 => k_is)
    (case k28 => k_is)
    (case a29 => k_is)
    (case l29 => k_is)
    (case c29 => k_is)
    (case k29 => k_is)
    (case a30 => k_is)
    (case l30 => k_is)
    (case c30 => k_is)
    (case k30 => k_is)
    (case a31 => k_is)
    (case l31 => k_is)
    (case c31 => k_is)
    (case k31 => k_is)
    (case a32 => k_is)
    (case l32 => k_is)
    (case c32 => k_is)
    (case k32 => k_is)
    (case a33 => k_is)
    (case l33 => k_is)
    (case c33 => k_is)
    (case k33 => k_is)
    (case a34 => k_is)
    (case l34 => k_is)
    (case c34 => k_is)
    (case k34 => k_is)
    (case a35 => k_is)
    (case l35 => k_is)
    (case c35 => k_is)
    (case k35 => k_is)
    (case a36 => k_is)
    (case l36 => k_is)
    (case c36 => k_is)
    (case k36 => k_is)
    (case a37 => k_is)
    (case l37 => k_is)
    (case c37 => k_is)
    (case k37 => k_is)
    (case a38 => k_is)
    (case l38 => k_is)
    (case c38 => k_is)
    (case k38 => k_is)
    (case a39 => k_is)
    (case i39 => k_is)
    (case l39 => k_is)
    (case t39 => k_is)
    (case kd39_0 => k_is)
    (case c39 => k_is)
    (case k39 => k_is)
    (case a40 => k_is)
    (case i40 => k_is)
    (case l40 => k_is)
    (case c40 => k_is)
    (case k40 => k_is)
    (case a41 => k_is)
    (case i41 => k_is)
    (case l41 => k_is)
    (case c41 => k_is)
    (case k41 => k_is)
    (case a42 => k_is)
    (case i42 => k_is)
    (case l42 => k_is)
    (case c42 => k_is)
    (case k42 => k_is)
    (case a43 => k_is)
    (case i43 => k_is)
    (case l43 => k_is)
    (case c43 => k_is)
    (case k43 => k_is)
    (case a44 => k_is)
    (case i44 => k_is)
    (case l44 => k_is)
    (case c44 => k_is)
    (case k44 => k_is)
    (case a45 => k_is)
    (case l45 => k_is)
    (case c45 => k_is)
    (case k45 => k_is)
    (case a46 => k_is)
    (case l46 => k_is)
    (case c46 => k_is)
    (case k46 => k_is)
    (case a47 => k_is)
    (case l47 => k_is)
    (case c47 => k_is)
    (case k47 => k_is)
    (case a48 => k_is)
    (case l48 => k_is)
    (case c48 => k_is)
    (case k48 => k_is)
    (case a49 => k_is)
    (case l49 => k_is)
    (case c49 => k_is)
    (case k49 => k_is)
    (case a50 => k_is)
    (case l50 => k_is)
    (case c50 => k_is)
    (case k50 => k_is)
    (case a51 => k_is)
    (case l51 => k_is)
    (case c51 => k_is)
    (case k51 => k_is)
    (case a52 => k_is)
    (case l52 => k_is)
    (case c52 => k_is)
    (case k52 => k_is)
    (case a53 => k_is)
    (case l53 => k_is)
    (case c53 => k_is)
    (case k53 => k_is)
    (case a54 => k_is)
    (case l54 => k_is)
    (case c54 => k_is)
    (case k54 => k_is)
    (case a55 => k_is)
    (case l55 => k_is)
    (case c55 => k_is)
    (case k55 => k_is)
    (case a56 => k_is)
    (case l56 => k_is)
    (case c56 => k_is)
    (case k56 => k_is)
    (case a57 => k_is)
    (case l57 => k_is)
    (case c57 => k_is)
    (case k57 => k_is)
    (case gb0 => k_is)
    (case gb1 => k_is)
    (case gb2 => k_is)
    (case gb3 => k_is)
    (case gb4 => k_is)
    (case gb5 => k_is)
    (case gb6 => k_is)
    (case gb7 => k_is)
    (case gb8 => k_is)
    (case gb9 => k_is)
    (case gb10 => k_is)
    (case gb11 => k_is)
    (case gb12 => k_is)
    (case gb13 => k_is)
    (case z0 => k_is)
    (case z1 => k_is)
    (case z2 => k_is)
    (case z3 => k_is)
    (case z4 => k_is)
    (case z5 => k_is)
    (case z6 => k_is)
    (case z7 => k_is)
    (case z8 => k_is)
    (case z9 => k_is)
    (case z10 => k_is)
    (case z11 => k_is)
    (case z12 => k_is)
    (case z13 => k_is)
    (case z14 => k_is)
    (case z15 => k_is)
    (case xa1 => k_exc)
    (case xb1 => k_is)
    (case xc1 => k_is)
    (case xd1 => k_is)
    (case xa2 => k_exc)
    (case xb2 => k_is)
    (case xc2 => k_is)
    (case xd2 => k_is)
    (case xa3 => k_exc)
    (case xb3 => k_is)
    (case xc3 => k_is)
    (case xd3 => k_is)
    (case cg4 => k_is)
    (case cD4 => k_is)
    (case co4 => k_is)
    (case cs4 => k_is)
    (case na0 => k_is)
    (case na1 => k_is)
    (case na2 => k_is)
    (case na3 => k_is)
    (case na4 => k_is)
    (case mk4 => k_is)
    (case kc4 => k_is)
    (case kh4 => k_is)
    (case kn4 => k_is)
    (case kt4 => k_is)
    (case km4 => k_is)
    (case ki0 => kit_is)
    (case ki1 => kit_is)
    (case ki2 => kit_is)
    (case ki3 => kit_is)
    (case ki4 => kit_is)
    (case ki5 => kit_is)
    (case ki6 => kit_is)
    (case ki7 => kit_is)
    (case ki8 => kit_is)
    (case ki9 => kit_is)
    (case ki10 => kit_is)
    (case ki11 => kit_is)
    (case ki12 => kit_is)
    (case on4 => k_is)
    (case oo4 => k_is)
    (case sf4 => k_is)
#print axioms PySem.Challenge.cw_loopforms_k65_filters_and_takers_joined_holds
