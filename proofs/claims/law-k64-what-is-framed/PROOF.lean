import PyProof.Rows.All
import Wide.All
import OpenK.AllK
import Wide.FinOn
import HandS.ForMost
import HandS.Flow
import HandS.Style
import HandS.IsInst
import HandS.TupAny
import HandS.TupMul
import HandS.Wide
import HandS.Deep
import HandS.ForExc
import HandS.Zip
import KE.GoesEnum
import KE.SortData
import HandS.TupLen
import HandS.TupSets
import PySem.Challenge.RW_stickytiles_k64_what_is_framed
set_option Elab.async false
set_option linter.all false
set_option autoImplicit false
set_option maxRecDepth 100000
/-! DL: values without addresses but for what changes; expressions and statements as plain functions. -/
namespace DL
open PySem PySem.Spec PyProof.Rows L2

/-- a value: tuples by what they hold, what may change by its number in the memory -/
inductive D where
  | non
  | bl (b : Bool)
  | int (i : Int)
  | str (x : Str)
  | tup (xs : List D)
  | fls (xs : List D)
  | ref (l : Nat)
  | ty (n : String)
  deriving Repr

mutual
def D.beq : D → D → Bool
  | .non, .non => true
  | .bl a, .bl b => a == b
  | .int a, .int b => a == b
  | .str a, .str b => decide (a = b)
  | .tup a, .tup b => D.beqL a b
  | .fls a, .fls b => D.beqL a b
  | .ref a, .ref b => a == b
  | .ty a, .ty b => a == b
  | _, _ => false
def D.beqL : List D → List D → Bool
  | [], [] => true
  | x :: xs, y :: ys => D.beq x y && D.beqL xs ys
  | _, _ => false
end
mutual
theorem D.beq_eq : ∀ (a b : D), D.beq a b = true → a = b
  | .non, b, h => by cases b <;> simp_all [D.beq]
  | .bl x, b, h => by cases b <;> simp_all [D.beq]
  | .int x, b, h => by cases b <;> simp_all [D.beq]
  | .str x, b, h => by cases b <;> simp_all [D.beq]
  | .ref x, b, h => by cases b <;> simp_all [D.beq]
  | .ty x, b, h => by cases b <;> simp_all [D.beq]
  | .tup x, b, h => by
    cases b with
    | tup y => rw [D.beqL_eq x y (by simpa [D.beq] using h)]
    | _ => simp [D.beq] at h
  | .fls x, b, h => by
    cases b with
    | fls y => rw [D.beqL_eq x y (by simpa [D.beq] using h)]
    | _ => simp [D.beq] at h
theorem D.beqL_eq : ∀ (a b : List D), D.beqL a b = true → a = b
  | [], b, h => by cases b <;> simp_all [D.beqL]
  | x :: xs, b, h => by
    cases b with
    | nil => simp [D.beqL] at h
    | cons y ys =>
      have h' : D.beq x y = true ∧ D.beqL xs ys = true := by simpa [D.beqL] using h
      rw [D.beq_eq x y h'.1, D.beqL_eq xs ys h'.2]
end
mutual
theorem D.beq_refl : ∀ (a : D), D.beq a a = true
  | .non => by simp [D.beq]
  | .bl x => by simp [D.beq]
  | .int x => by simp [D.beq]
  | .str x => by simp [D.beq]
  | .ref x => by simp [D.beq]
  | .ty x => by simp [D.beq]
  | .tup x => by rw [D.beq]; exact D.beqL_refl x
  | .fls x => by rw [D.beq]; exact D.beqL_refl x
theorem D.beqL_refl : ∀ (a : List D), D.beqL a a = true
  | [] => by simp [D.beqL]
  | x :: xs => by rw [D.beqL, D.beq_refl x, D.beqL_refl xs]; rfl
end
instance : DecidableEq D := fun a b => if h : D.beq a b = true then isTrue (D.beq_eq a b h) else isFalse fun e => h (e ▸ D.beq_refl a)

/-- what may change -/
inductive MO where
  | lst (xs : List D)
  | dK (kvs : List (Key × D))
  | dT (kvs : List (List Key × D))
  | ins (c : Str) (fs : List (Str × D))
abbrev Mem := List MO
abbrev En := List (Option D)
/-- an error: its class's name, its fields -/
structure Exc where
  c : Str
  fs : List (Str × D)

/-! ### how values lie in the heap -/
def StL (K : PySem.W.Frag) (H : Hp) (a : Addr) (xs : List V) : Prop :=
  (∃ o, H a = some (.frz o (.lst xs))) ∨
    ∃ (o : Obj) (its : Array Value) (n : Nat), K.lookup a = some o ∧ o.cls = .type "list" ∧ o.dict = none ∧ o.data = .seq its n ∧ its.size ≤ sizeLine ∧ Vals xs its.toList
theorem StL.sq {K : PySem.W.Frag} {H : Hp} {a : Addr} {xs : List V} (h : StL K H a xs) : SqL K H a xs := by
  rcases h with h | h
  · exact .inl (.inr h)
  · exact .inr h
mutual
inductive Rep (K : PySem.W.Frag) (H : Hp) (as : List Addr) : V → D → Prop
  | non : Rep K H as .non .non
  | bl (b : Bool) : Rep K H as (.bl b) (.bl b)
  | int (i : Int) : Rep K H as (.int i) (.int i)
  | str (x : Str) : Rep K H as (.str x) (.str x)
  | tup {a : Addr} {xs : List V} {ds : List D} : SqT K H a xs → RepL K H as xs ds → Rep K H as (.ref a) (.tup ds)
  | fls {a : Addr} {xs : List V} {ds : List D} : StL K H a xs → RepL K H as xs ds → Rep K H as (.ref a) (.fls ds)
  | ref {a : Addr} {l : Nat} : as[l]? = some a → Rep K H as (.ref a) (.ref l)
  | ty (n : String) : Rep K H as (.ty n) (.ty n)
inductive RepL (K : PySem.W.Frag) (H : Hp) (as : List Addr) : List V → List D → Prop
  | nil : RepL K H as [] []
  | cons {v : V} {vs : List V} {d : D} {ds : List D} : Rep K H as v d → RepL K H as vs ds → RepL K H as (v :: vs) (d :: ds)
end

/-- what a later heap keeps -/
structure Ext (H H' : Hp) (as as' : List Addr) : Prop where
  pre : ∃ more, as' = as ++ more
  tup : ∀ a xs, H a = some (.tup xs) → H' a = some (.tup xs)
  frz : ∀ a o u, H a = some (.frz o u) → H' a = some (.frz o u)
section
variable {K : PySem.W.Frag} {mg : Str → Option Value} {H H' H1 H2 : Hp} {as as' as1 as2 : List Addr} {v : V} {d : D} {vs ws : List V} {ds es : List D}
theorem Ext.refl : Ext H H as as := ⟨⟨[], by simp⟩, fun _ _ e => e, fun _ _ _ e => e⟩
theorem Ext.trans (a : Ext H H1 as as1) (b : Ext H1 H2 as1 as2) : Ext H H2 as as2 := by
  obtain ⟨m1, e1⟩ := a.pre
  obtain ⟨m2, e2⟩ := b.pre
  exact ⟨⟨m1 ++ m2, by rw [e2, e1, List.append_assoc]⟩, fun x xs e => b.tup _ _ (a.tup _ _ e), fun x o u e => b.frz _ _ _ (a.frz _ _ _ e)⟩
theorem Ext.get (e : Ext H H' as as') {l : Nat} {a : Addr} (h : as[l]? = some a) : as'[l]? = some a := by
  obtain ⟨m, e1⟩ := e.pre
  obtain ⟨hl, e2⟩ := List.getElem?_eq_some_iff.mp h
  rw [e1, List.getElem?_append_left hl]
  exact h
theorem Ext.sqT (e : Ext H H' as as') {a : Addr} {xs : List V} (h : SqT K H a xs) : SqT K H' a xs := by
  rcases h with (h | ⟨o, h⟩) | h
  · exact .inl (.inl (e.tup _ _ h))
  · exact .inl (.inr ⟨o, e.frz _ _ _ h⟩)
  · exact .inr h
theorem Ext.stL (e : Ext H H' as as') {a : Addr} {xs : List V} (h : StL K H a xs) : StL K H' a xs := by
  rcases h with ⟨o, h⟩ | h
  · exact .inl ⟨o, e.frz _ _ _ h⟩
  · exact .inr h
mutual
theorem Rep.mono (e : Ext H H' as as') : ∀ (d : D) (v : V), Rep K H as v d → Rep K H' as' v d
  | .non, _, h => by cases h; exact .non
  | .bl _, _, h => by cases h; exact .bl _
  | .int _, _, h => by cases h; exact .int _
  | .str _, _, h => by cases h; exact .str _
  | .tup ds, _, h => by
    cases h with
    | tup h1 h2 => exact .tup (e.sqT h1) (RepL.mono e ds _ h2)
  | .fls ds, _, h => by
    cases h with
    | fls h1 h2 => exact .fls (e.stL h1) (RepL.mono e ds _ h2)
  | .ref _, _, h => by
    cases h with
    | ref h1 => exact .ref (e.get h1)
  | .ty _, _, h => by cases h; exact .ty _
theorem RepL.mono (e : Ext H H' as as') : ∀ (ds : List D) (vs : List V), RepL K H as vs ds → RepL K H' as' vs ds
  | [], _, h => by cases h; exact .nil
  | d :: ds, _, h => by
    cases h with
    | cons h1 h2 => exact .cons (Rep.mono e d _ h1) (RepL.mono e ds _ h2)
end
theorem Rep.up (h : Rep K H as v d) (e : Ext H H' as as') : Rep K H' as' v d := Rep.mono e _ _ h
theorem RepL.up (h : RepL K H as vs ds) (e : Ext H H' as as') : RepL K H' as' vs ds := RepL.mono e _ _ h
theorem RepL.length : ∀ {vs : List V} {ds : List D}, RepL K H as vs ds → vs.length = ds.length
  | _, _, .nil => rfl
  | _, _, .cons _ t => by simp [RepL.length t]
theorem RepL.get : ∀ {vs : List V} {ds : List D} {i : Nat} {d : D}, RepL K H as vs ds → ds[i]? = some d → ∃ v, vs[i]? = some v ∧ Rep K H as v d
  | _, _, _, _, .nil, e => by simp at e
  | _, _, 0, _, .cons r _, e => by simp at e; subst e; exact ⟨_, rfl, r⟩
  | _, _, i + 1, _, .cons _ t, e => by
    obtain ⟨u, h1, h2⟩ := RepL.get (i := i) t (by simpa using e)
    exact ⟨u, by simpa using h1, h2⟩
theorem RepL.getV : ∀ {vs : List V} {ds : List D} {i : Nat} {v : V}, RepL K H as vs ds → vs[i]? = some v → ∃ d, ds[i]? = some d ∧ Rep K H as v d
  | _, _, _, _, .nil, e => by simp at e
  | _, _, 0, _, .cons r _, e => by simp at e; subst e; exact ⟨_, rfl, r⟩
  | _, _, i + 1, _, .cons _ t, e => by
    obtain ⟨u, h1, h2⟩ := RepL.getV (i := i) t (by simpa using e)
    exact ⟨u, by simpa using h1, h2⟩
theorem RepL.append : ∀ {vs ws : List V} {ds es : List D}, RepL K H as vs ds → RepL K H as ws es → RepL K H as (vs ++ ws) (ds ++ es)
  | _, _, _, _, .nil, s => s
  | _, _, _, _, .cons r t, s => .cons r (RepL.append t s)
theorem RepL.take : ∀ {vs : List V} {ds : List D} (n : Nat), RepL K H as vs ds → RepL K H as (vs.take n) (ds.take n)
  | _, _, 0, _ => by simpa using RepL.nil
  | _, _, n + 1, .nil => by simpa using RepL.nil
  | _, _, n + 1, .cons r t => by simpa using RepL.cons r (RepL.take n t)
theorem RepL.drop : ∀ {vs : List V} {ds : List D} (n : Nat), RepL K H as vs ds → RepL K H as (vs.drop n) (ds.drop n)
  | _, _, 0, r => by simpa using r
  | _, _, n + 1, .nil => by simpa using RepL.nil
  | _, _, n + 1, .cons r t => by simpa using RepL.drop n t
theorem RepL.set : ∀ {vs : List V} {ds : List D} (i : Nat), Rep K H as v d → RepL K H as vs ds → RepL K H as (vs.set i v) (ds.set i d)
  | _, _, _, _, .nil => .nil
  | _, _, 0, r, .cons _ t => .cons r t
  | _, _, i + 1, r, .cons q t => .cons q (RepL.set i r t)
theorem RepL.eraseIdx : ∀ {vs : List V} {ds : List D} (i : Nat), RepL K H as vs ds → RepL K H as (vs.eraseIdx i) (ds.eraseIdx i)
  | _, _, _, .nil => by simpa using RepL.nil
  | _, _, 0, .cons _ t => t
  | _, _, i + 1, .cons q t => .cons q (RepL.eraseIdx i t)
theorem RepL.dropLast : ∀ {vs : List V} {ds : List D}, RepL K H as vs ds → RepL K H as vs.dropLast ds.dropLast
  | _, _, .nil => .nil
  | _, _, .cons r .nil => .nil
  | _, _, .cons r (.cons q t) => .cons r (RepL.dropLast (.cons q t))
theorem RepL.reverse {vs : List V} {ds : List D} (h : RepL K H as vs ds) : RepL K H as vs.reverse ds.reverse := by
  induction vs generalizing ds with
  | nil => cases h; exact .nil
  | cons v vs ih =>
    cases h with
    | cons r t =>
      rw [List.reverse_cons, List.reverse_cons]
      exact (ih t).append (.cons r .nil)

/-! ### the memory -/
def RepKV {κ : Type} (K : PySem.W.Frag) (H : Hp) (as : List Addr) (xs : List (κ × V)) (ys : List (κ × D)) : Prop := xs.map (·.1) = ys.map (·.1) ∧ RepL K H as (xs.map (·.2)) (ys.map (·.2))
theorem RepKV.up {κ : Type} {xs : List (κ × V)} {ys : List (κ × D)} (h : RepKV K H as xs ys) (e : Ext H H' as as') : RepKV K H' as' xs ys := ⟨h.1, h.2.up e⟩
def ORep (K : PySem.W.Frag) (mg : Str → Option Value) (H : Hp) (as : List Addr) (a : Addr) : MO → Prop
  | .lst ds => ∃ vs, H a = some (.lst vs) ∧ RepL K H as vs ds
  | .dK kvs => ∃ xs, H a = some (.dK xs) ∧ RepKV K H as xs kvs
  | .dT kvs => ∃ xs, H a = some (.dT xs) ∧ RepKV K H as xs kvs
  | .ins c fs => ∃ C dx xs, H a = some (.ins C dx xs) ∧ mg c = some (.ref C) ∧ RepKV K H as xs fs
structure MemR (K : PySem.W.Frag) (mg : Str → Option Value) (H : Hp) (as : List Addr) (M : Mem) : Prop where
  len : as.length = M.length
  nd : as.Nodup
  ob : ∀ (l : Nat) (a : Addr) (o : MO), as[l]? = some a → M[l]? = some o → ORep K mg H as a o
structure SlotR (K : PySem.W.Frag) (H : Hp) (as : List Addr) (σ : L2.St) (ρ : En) : Prop where
  len : σ.length = ρ.length
  at_ : ∀ (i : Nat) (d : D), ρ[i]? = some (some d) → ∃ v, σ[i]? = some (some v) ∧ Rep K H as v d
theorem SlotR.up {σ : L2.St} {ρ : En} (h : SlotR K H as σ ρ) (e : Ext H H' as as') : SlotR K H' as' σ ρ := ⟨h.len, fun i d hd => by
  obtain ⟨v, h1, h2⟩ := h.at_ i d hd
  exact ⟨v, h1, h2.up e⟩⟩
theorem ORep.there {a : Addr} {o : MO} (h : ORep K mg H as a o) : ∃ u, H a = Option.some u ∧ (∀ xs, u ≠ HO.tup xs) ∧ ∀ o' w, u ≠ HO.frz o' w := by
  cases o with
  | lst ds => obtain ⟨vs, e, _⟩ := h; exact ⟨_, e, (by intro _ z; cases z), (by intro _ _ z; cases z)⟩
  | dK ds => obtain ⟨vs, e, _⟩ := h; exact ⟨_, e, (by intro _ z; cases z), (by intro _ _ z; cases z)⟩
  | dT ds => obtain ⟨vs, e, _⟩ := h; exact ⟨_, e, (by intro _ z; cases z), (by intro _ _ z; cases z)⟩
  | ins c fs => obtain ⟨C, dx, vs, e, _⟩ := h; exact ⟨_, e, (by intro _ z; cases z), (by intro _ _ z; cases z)⟩
/-- it hangs on its own place and on what stays -/
theorem ORep.up {a : Addr} {o : MO} (h : ORep K mg H as a o) (e : Ext H H' as as') (k : H' a = H a) : ORep K mg H' as' a o := by
  cases o with
  | lst ds => obtain ⟨vs, e1, r⟩ := h; exact ⟨vs, k.trans e1, r.up e⟩
  | dK ds => obtain ⟨vs, e1, r⟩ := h; exact ⟨vs, k.trans e1, r.up e⟩
  | dT ds => obtain ⟨vs, e1, r⟩ := h; exact ⟨vs, k.trans e1, r.up e⟩
  | ins c fs => obtain ⟨C, dx, vs, e1, m, r⟩ := h; exact ⟨C, dx, vs, k.trans e1, m, r.up e⟩
variable {M : Mem}
theorem MemR.lt {l : Nat} {a : Addr} (m : MemR K mg H as M) (h : as[l]? = some a) : ∃ o, M[l]? = some o ∧ ORep K mg H as a o := by
  obtain ⟨hl, _⟩ := List.getElem?_eq_some_iff.mp h
  have hl' : l < M.length := by rw [← m.len]; exact hl
  exact ⟨M[l], by simp [hl'], m.ob l a _ h (by simp [hl'])⟩
theorem MemR.addr {l : Nat} {o : MO} (m : MemR K mg H as M) (h : M[l]? = some o) : ∃ a, as[l]? = some a ∧ ORep K mg H as a o := by
  obtain ⟨hl, _⟩ := List.getElem?_eq_some_iff.mp h
  have hl' : l < as.length := by rw [m.len]; exact hl
  exact ⟨as[l], by simp [hl'], m.ob l _ _ (by simp [hl']) h⟩
theorem MemR.fresh {p : Addr} (m : MemR K mg H as M) (hp : H p = none) : p ∉ as := fun hm => by
  obtain ⟨l, hl⟩ := List.getElem?_of_mem hm
  obtain ⟨o, _, r⟩ := m.lt hl
  obtain ⟨u, e, _⟩ := r.there
  rw [hp] at e
  cases e
theorem Ext.new {p : Addr} {o : HO} (hp : H p = none) : Ext H (upd H p o) as as := ⟨⟨[], by simp⟩, fun a xs e => by rw [upd_ne (ne_of_none e hp)]; exact e, fun a o' u e => by rw [upd_ne (ne_of_none e hp)]; exact e⟩
theorem Ext.newM {p : Addr} {o : HO} (hp : H p = none) : Ext H (upd H p o) as (as ++ [p]) := ⟨⟨[p], rfl⟩, (Ext.new (as := as) hp).tup, (Ext.new (as := as) hp).frz⟩
/-- a new object that isn't told in the memory -/
theorem MemR.new {p : Addr} {o : HO} (m : MemR K mg H as M) (hp : H p = none) : MemR K mg (upd H p o) as M := ⟨m.len, m.nd, fun l a u h1 h2 => (m.ob l a u h1 h2).up (Ext.new hp) (by
  rw [upd_ne]
  intro e
  subst e
  exact m.fresh hp (List.mem_of_getElem? h1))⟩
/-- a new object that may change -/
theorem MemR.newM {p : Addr} {o : HO} {u : MO} (m : MemR K mg H as M) (hp : H p = none) (r : ORep K mg (upd H p o) (as ++ [p]) p u) : MemR K mg (upd H p o) (as ++ [p]) (M ++ [u]) := by
  have hn := m.fresh hp
  refine ⟨by simp [m.len], ?_, fun l a w h1 h2 => ?_⟩
  · rw [List.nodup_append]
    exact ⟨m.nd, by simp, by
      intro x hx y hy e
      simp at hy
      subst hy
      subst e
      exact hn hx⟩
  · by_cases hl : l < as.length
    · rw [List.getElem?_append_left hl] at h1
      rw [List.getElem?_append_left (by rw [← m.len]; exact hl)] at h2
      refine (m.ob l a w h1 h2).up (Ext.newM hp) ?_
      rw [upd_ne]
      intro e
      subst e
      exact hn (List.mem_of_getElem? h1)
    · have e1 : l = as.length := by
        have := (List.getElem?_eq_some_iff.mp h1).1
        simp at this
        omega
      subst e1
      rw [List.getElem?_append_right (Nat.le_refl _), Nat.sub_self] at h1
      rw [List.getElem?_append_right (by rw [m.len]; exact Nat.le_refl _), m.len, Nat.sub_self] at h2
      simp at h1 h2
      subst h1
      subst h2
      exact r
theorem Ext.set {a : Addr} {o : HO} {u : HO} (h : H a = some u) (n1 : ∀ xs, u ≠ .tup xs) (n2 : ∀ o' w, u ≠ .frz o' w) : Ext H (upd H a o) as as := ⟨⟨[], by simp⟩, fun b xs e => by
  rw [upd_ne (ne_of e h (n1 xs).symm)]; exact e, fun b o' w e => by rw [upd_ne (ne_of e h (n2 o' w).symm)]; exact e⟩
theorem MemR.ext {l : Nat} {a : Addr} {w : MO} {o : HO} (m : MemR K mg H as M) (ha : as[l]? = some a) (hw : M[l]? = some w) : Ext H (upd H a o) as as := by
  obtain ⟨u, e, n1, n2⟩ := (m.ob l a w ha hw).there
  exact Ext.set e n1 n2
/-- what may change has changed -/
theorem MemR.set {l : Nat} {a : Addr} {o : HO} {u w : MO} (m : MemR K mg H as M) (ha : as[l]? = some a) (hw : M[l]? = some w) (r : ORep K mg (upd H a o) as a u) : MemR K mg (upd H a o) as (M.set l u) := by
  refine ⟨by simp [m.len], m.nd, fun k b x h1 h2 => ?_⟩
  by_cases hk : k = l
  · subst hk
    rw [ha] at h1
    cases h1
    rw [List.getElem?_set_self (by rw [← m.len]; exact (List.getElem?_eq_some_iff.mp ha).1)] at h2
    cases h2
    exact r
  · rw [List.getElem?_set_ne (fun e => hk e.symm)] at h2
    refine (m.ob k b x h1 h2).up (m.ext ha hw) ?_
    rw [upd_ne]
    intro e
    subst e
    obtain ⟨i1, e1⟩ := List.getElem?_eq_some_iff.mp ha
    obtain ⟨i2, e2⟩ := List.getElem?_eq_some_iff.mp h1
    exact hk ((List.getElem_inj m.nd).mp (e2.trans e1.symm))
end
end DL

namespace DL
open PySem PySem.Spec PyProof.Rows L2

/-! ### what is told -/
structure Ctx where
  K : PySem.W.Frag
  mg : Str → Option Value
  E : XK
abbrev cX (X : Cx) (E : XK) : Ctx := ⟨X.K, X.mg, E⟩
def ExcR (c : Ctx) (H : Hp) (as : List Addr) (cls : Value) (dd : Option Addr) (x : Exc) : Prop :=
  ∃ C, cls = .ref C ∧ c.mg x.c = some (.ref C) ∧ ((x.fs = [] ∧ dd = none) ∨ ∃ d xs, dd = some d ∧ H d = some (.xd xs) ∧ RepKV c.K H as xs x.fs)
abbrev Rl (α β : Type) := Hp → List Addr → β → α → Prop
abbrev Cp (α : Type) := En → Mem → Option (Except Exc α × Mem)
abbrev Tr (β : Type) := L2.St → Hp → (β → Hp → Prop) → Prop
def Post {α β : Type} (c : Ctx) (R : Rl α β) (H : Hp) (as : List Addr) (M' : Mem) (r : Except Exc α) (Q : β → Hp → Prop) : Prop :=
  match r with
  | .ok a => ∀ as' v H', Ext H H' as as' → MemR c.K c.mg H' as' M' → R H' as' v a → Q v H'
  | .error x => ∀ as' cls dd H', Ext H H' as as' → MemR c.K c.mg H' as' M' → ExcR c H' as' cls dd x → c.E cls dd H'
def tG {α β : Type} (c : Ctx) (R : Rl α β) (f : Cp α) : Tr β := fun σ H Q => ∃ as M ρ r M', SlotR c.K H as σ ρ ∧ MemR c.K c.mg H as M ∧ f ρ M = some (r, M') ∧ Post c R H as M' r Q
def bindC {α γ : Type} (f : Cp α) (k : α → Cp γ) : Cp γ := fun ρ M => match f ρ M with
  | some (.ok a, M1) => k a ρ M1
  | some (.error x, M1) => some (.error x, M1)
  | none => none
def pureC {α : Type} (a : α) : Cp α := fun _ M => some (.ok a, M)
def memC {α : Type} (g : Mem → Option (α × Mem)) : Cp α := fun _ M => match g M with
  | some (a, M') => some (.ok a, M')
  | none => none
def failC {α : Type} : Cp α := fun _ _ => none
/-- the relations -/
abbrev rD (c : Ctx) : Rl D V := fun H as v d => Rep c.K H as v d
abbrev rDs (c : Ctx) : Rl (List D) (List V) := fun H as v d => RepL c.K H as v d
abbrev rEq {α : Type} : Rl α α := fun _ _ v d => v = d
abbrev tD (c : Ctx) (f : Cp D) : TE := tG c (rD c) f
abbrev tA (c : Ctx) (f : Cp (List D)) : TA := tG c (rDs c) f
abbrev tT (c : Ctx) (f : Cp Bool) : TT := tG c rEq f
abbrev tO (c : Ctx) (f : Cp (Option Int)) : TO := tG c rEq f

section
variable {α β γ δ : Type} {c : Ctx} {R : Rl α β} {S : Rl γ δ} {H H1 : Hp} {as as1 : List Addr} {M M' M1 : Mem} {σ : L2.St} {ρ : En}
theorem Post.up {r : Except Exc α} {Q : β → Hp → Prop} (h : Post c R H as M' r Q) (e : Ext H H1 as as1) : Post c R H1 as1 M' r Q := by
  cases r with
  | ok a => exact fun as' v H' e' m r => h as' v H' (e.trans e') m r
  | error x => exact fun as' cls dd H' e' m r => h as' cls dd H' (e.trans e') m r
theorem Post.ok {a : α} {v : β} {Q : β → Hp → Prop} (h : Post c R H as M' (.ok a) Q) (m : MemR c.K c.mg H as M') (r : R H as v a) : Q v H := h as v H Ext.refl m r
theorem run_bind {f : Cp α} {k : α → Cp γ} {r : Except Exc γ} {Q : δ → Hp → Prop} {P : β → Hp → Prop} (hs : SlotR c.K H as σ ρ) (hm : MemR c.K c.mg H as M) (hf : bindC f k ρ M = some (r, M')) (hp : Post c S H as M' r Q)
    (hP : ∀ as1 v H1 a M1, Ext H H1 as as1 → SlotR c.K H1 as1 σ ρ → MemR c.K c.mg H1 as1 M1 → R H1 as1 v a → k a ρ M1 = some (r, M') → Post c S H1 as1 M' r Q → P v H1) : tG c R f σ H P := by
  unfold bindC at hf
  split at hf
  · rename_i a M1 e
    exact ⟨as, M, ρ, .ok a, M1, hs, hm, e, fun as' v H' ex m r => hP as' v H' a M1 ex (hs.up ex) m r hf (hp.up ex)⟩
  · rename_i x M1 e
    cases hf
    exact ⟨as, M, ρ, .error x, M', hs, hm, e, hp⟩
  · cases hf
theorem run_mem {g : Mem → Option (α × Mem)} {r : Except Exc α} (h : memC g ρ M = some (r, M')) : ∃ a, r = .ok a ∧ g M = some (a, M') := by
  unfold memC at h
  split at h
  · rename_i a M1 e
    cases h
    exact ⟨a, rfl, e⟩
  · cases h
theorem run_pure {a : α} {r : Except Exc α} (h : pureC a ρ M = some (r, M')) : r = .ok a ∧ M' = M := by
  cases h
  exact ⟨rfl, rfl⟩
end

/-! ### weaker readings -/
section
variable {X : Cx} {e : Expr} {es : List Expr}
theorem _root_.L2.PE.imp {t t' : TE} (h : PE X e t) (i : ∀ σ H Q, t' σ H Q → t σ H Q) : PE X e t' := ⟨fun pins s σ H Q I q => h.run pins s σ H Q I (i σ H Q q)⟩
theorem _root_.L2.PT.imp {t t' : TT} (h : PT X e t) (i : ∀ σ H Q, t' σ H Q → t σ H Q) : PT X e t' := ⟨fun pins s σ H Q I q => h.run pins s σ H Q I (i σ H Q q)⟩
theorem _root_.L2.PW.imp {t t' : TT} (h : PW X e t) (i : ∀ σ H Q, t' σ H Q → t σ H Q) : PW X e t' := ⟨fun w pins s σ H Q I q => h.run w pins s σ H Q I (i σ H Q q)⟩
theorem _root_.L2.PA.imp {t t' : TA} (h : PA X es t) (i : ∀ σ H Q, t' σ H Q → t σ H Q) : PA X es t' := ⟨fun p pins s σ H Q I q => h.run p pins s σ H Q I (i σ H Q q)⟩
theorem _root_.L2.PTs.imp {t t' : TT} (h : PTs X es t) (i : ∀ σ H Q, t' σ H Q → t σ H Q) : PTs X es t' := ⟨fun pins s σ H Q I q => h.run pins s σ H Q I (i σ H Q q)⟩
theorem _root_.L2.PO.imp {o : Option Expr} {t t' : TO} (h : PO X o t) (i : ∀ σ H Q, t' σ H Q → t σ H Q) : PO X o t' := ⟨fun pins s σ H Q I q => h.run pins s σ H Q I (i σ H Q q)⟩
theorem _root_.L2.PS.imp {st : Stmt} {t t' : TS} (h : PS X st t) (i : ∀ D σ H, t' D σ H → t D σ H) : PS X st t' := ⟨fun pins s σ H D I q => h.run pins s σ H D I (i D σ H q)⟩
theorem _root_.L2.PSs.imp {st : List Stmt} {t t' : TS} (h : PSs X st t) (i : ∀ D σ H, t' D σ H → t D σ H) : PSs X st t' := ⟨fun pins s σ H D I q => h.run pins s σ H D I (i D σ H q)⟩
theorem _root_.L2.PG.imp {t t' : TG} (h : PG X e t) (i : ∀ v σ H Q, t' v σ H Q → t v σ H Q) : PG X e t' := ⟨fun pins s σ H v u Q I r q => h.run pins s σ H v u Q I r (i v σ H Q q)⟩
theorem _root_.L2.PGs.imp {t t' : TGs} (h : PGs X es t) (i : ∀ v σ H Q, t' v σ H Q → t v σ H Q) : PGs X es t' := ⟨fun pins s σ H v u Q I r q => h.run pins s σ H v u Q I r (i v σ H Q q)⟩
end

/-! ### expressions: names, constants, operators -/
def eVar (i : Nat) : Cp D := fun ρ M => match ρ[i]? with
  | some (some d) => some (.ok d, M)
  | _ => none
abbrev eC (d : D) : Cp D := pureC d
def eBin (op : D → D → Mem → Option (D × Mem)) (a b : Cp D) : Cp D := bindC a fun x => bindC b fun y => memC (op x y)
def eUn (op : D → Mem → Option (D × Mem)) (a : Cp D) : Cp D := bindC a fun x => memC (op x)
def SatR2 (c : Ctx) (r : R2) (g : D → D → Mem → Option (D × Mem)) : Prop := ∀ (H : Hp) (as : List Addr) (M : Mem) (x y : V) (d e z : D) (M' : Mem) (Q : VK), MemR c.K c.mg H as M → Rep c.K H as x d → Rep c.K H as y e → g d e M = some (z, M') → Post c (rD c) H as M' (.ok z) Q → r x y H Q
def SatR1 (c : Ctx) (r : V → Hp → VK → Prop) (g : D → Mem → Option (D × Mem)) : Prop := ∀ (H : Hp) (as : List Addr) (M : Mem) (x : V) (d z : D) (M' : Mem) (Q : VK), MemR c.K c.mg H as M → Rep c.K H as x d → g d M = some (z, M') → Post c (rD c) H as M' (.ok z) Q → r x H Q
def SatC (c : Ctx) (r : List V → Hp → VK → Prop) (g : List D → Mem → Option (D × Mem)) : Prop := ∀ (H : Hp) (as : List Addr) (M : Mem) (xs : List V) (ds : List D) (z : D) (M' : Mem) (Q : VK), MemR c.K c.mg H as M → RepL c.K H as xs ds → g ds M = some (z, M') → Post c (rD c) H as M' (.ok z) Q → r xs H Q
section
variable {X : Cx} {E : XK} {a b e : Expr} {fa fb : Cp D} {pos : Pos}
theorem d_var (i : Nat) {x : Str} (hN : X.N[i]? = some x := by rfl) (hv : Vis X.env.scope x := by first | exact Or.inl rfl | exact Or.inr (Or.inl rfl) | exact Or.inr (Or.inr rfl)) (hd : (x == ("__debug__" : Str)) = false := by decide)
    (hcd : (x == ("__classdict__" : Str)) = false := by decide) : PE X (.Name x pos) (tD (cX X E) (eVar i)) := (pe_var hN hv hd hcd).imp fun σ H Q ⟨as, M, ρ, r, M', hs, hm, hf, hp⟩ => by
  unfold eVar at hf
  split at hf
  · rename_i d e
    cases hf
    obtain ⟨v, e1, r1⟩ := hs.at_ i d e
    exact ⟨v, e1, hp.ok hm r1⟩
  · cases hf
theorem tC_of {c : Ctx} {v : V} {d : D} (h : ∀ (H : Hp) (as : List Addr), Rep c.K H as v d) : ∀ σ H Q, tD c (eC d) σ H Q → tC v σ H Q := fun σ H Q ⟨as, M, ρ, r, M', hs, hm, hf, hp⟩ => by
  cases hf
  exact hp.ok hm (h H as)
theorem d_int {i : Int} {j : Nat} : PE X (.Constant (.int i) j pos) (tD (cX X E) (eC (.int i))) := pe_int.imp (tC_of fun _ _ => .int i)
theorem d_bl {b : Bool} {j : Nat} : PE X (.Constant (.bool b) j pos) (tD (cX X E) (eC (.bl b))) := pe_bl.imp (tC_of fun _ _ => .bl b)
theorem d_non {j : Nat} : PE X (.Constant .none j pos) (tD (cX X E) (eC .non)) := pe_non.imp (tC_of fun _ _ => .non)
theorem d_str {x : Str} {j : Nat} : PE X (.Constant (.str x) j pos) (tD (cX X E) (eC (.str x))) := pe_str.imp (tC_of fun _ _ => .str x)
/-- a global of the module that is data -/
def GlobD (X : Cx) (x : Str) (d : D) : Prop := ∃ v u, X.mg x = some u ∧ RelV v u ∧ ∀ (H : Hp) (as : List Addr), Rep X.K H as v d
theorem d_glob {x : Str} {d : D} (hg : Gl X x) (h : GlobD X x d) (hd : (x == ("__debug__" : Str)) = false := by decide) : PE X (.Name x pos) (tD (cX X E) (eC d)) := by
  obtain ⟨v, u, hm, r, hr⟩ := h
  exact (pe_glob hg hm r hd).imp (tC_of hr)
theorem t_bin {r : R2} {g : D → D → Mem → Option (D × Mem)} {c : Ctx} (hg : SatR2 c r g) : ∀ σ H Q, tD c (eBin g fa fb) σ H Q → tOp r (tD c fa) (tD c fb) σ H Q := fun σ H Q ⟨as, M, ρ, w, M', hs, hm, hf, hp⟩ =>
  run_bind hs hm hf hp fun as1 v H1 d M1 e1 s1 m1 r1 f1 p1 => run_bind s1 m1 f1 p1 fun as2 u H2 d2 M2 e2 s2 m2 r2 f2 p2 => by
    obtain ⟨z, rfl, hz⟩ := run_mem f2
    exact hg H2 as2 M2 v u d d2 z M' Q m2 (r1.up e2) r2 hz p2
theorem d_bin {op : Operator} {r : R2} {g : D → D → Mem → Option (D × Mem)} (ho : OpR X (binaryOp op) r) (hg : SatR2 (cX X E) r g) (ha : PE X a (tD (cX X E) fa)) (hb : PE X b (tD (cX X E) fb)) : PE X (.BinOp a op b pos) (tD (cX X E) (eBin g fa fb)) :=
  (pe_op ho ha hb).imp (t_bin hg)
theorem d_cmp {op : CmpOp} {r : R2} {g : D → D → Mem → Option (D × Mem)} (ho : OpR X (compareOp op) r) (hg : SatR2 (cX X E) r g) (ha : PE X a (tD (cX X E) fa)) (hb : PE X b (tD (cX X E) fb)) (hm : behindInMarks op b = false := by first | exact nomark _ | rfl) : PE X (.Compare a [op] [b] pos) (tD (cX X E) (eBin g fa fb)) :=
  (pe_cmpR ho ha hb hm).imp (t_bin hg)
theorem d_ix {r : R2} {g : D → D → Mem → Option (D × Mem)} (ho : IxR X r) (hg : SatR2 (cX X E) r g) (ha : PE X a (tD (cX X E) fa)) (hb : PE X b (tD (cX X E) fb)) (hs : PlainIx b := by intro _ _; rfl) : PE X (.Subscript a b pos) (tD (cX X E) (eBin g fa fb)) :=
  (pe_ix ho ha hb hs).imp (t_bin hg)
theorem t_un {r : V → Hp → VK → Prop} {g : D → Mem → Option (D × Mem)} {c : Ctx} (hg : SatR1 c r g) : ∀ σ H Q, tD c (eUn g fa) σ H Q → tUn r (tD c fa) σ H Q := fun σ H Q ⟨as, M, ρ, w, M', hs, hm, hf, hp⟩ =>
  run_bind hs hm hf hp fun as1 v H1 d M1 e1 s1 m1 r1 f1 p1 => by
    obtain ⟨z, rfl, hz⟩ := run_mem f1
    exact hg H1 as1 M1 v d z M' Q m1 r1 hz p1
theorem d_un {op : UnaryOp} {r : V → Hp → VK → Prop} {g : D → Mem → Option (D × Mem)} (ho : UnR X (unaryOp op) r) (hg : SatR1 (cX X E) r g) (ha : PE X a (tD (cX X E) fa)) : PE X (.UnaryOp op a pos) (tD (cX X E) (eUn g fa)) :=
  (pe_un ho ha).imp (t_un hg)
end

/-! ### arguments, displays -/
def aNil : Cp (List D) := pureC []
def aCons (a : Cp D) (t : Cp (List D)) : Cp (List D) := bindC a fun x => bindC t fun xs => pureC (x :: xs)
def eTup (t : Cp (List D)) : Cp D := bindC t fun xs => memC fun M => if xs.length ≤ sizeLine then some (.tup xs, M) else none
def newL (xs : List D) (M : Mem) : Option (D × Mem) := if xs.length ≤ sizeLine then some (.ref M.length, M ++ [.lst xs]) else none
def eLst (t : Cp (List D)) : Cp D := bindC t fun xs => memC (newL xs)
def eCall (F : List D → Mem → Option (Except Exc D × Mem)) (t : Cp (List D)) : Cp D := bindC t fun xs => fun _ M => F xs M
def eCB (g : List D → Mem → Option (D × Mem)) (t : Cp (List D)) : Cp D := bindC t fun xs => memC (g xs)
theorem Rep.newT {c : Ctx} {H : Hp} {as : List Addr} {p : Addr} {vs : List V} {ds : List D} (h : RepL c.K H as vs ds) (hp : H p = none) : Rep c.K (upd H p (.tup vs)) as (.ref p) (.tup ds) := .tup (SqT.of upd_same) (h.up (Ext.new hp))
/-- what follows a new tuple, a new list -/
theorem Post.newT {c : Ctx} {H : Hp} {as : List Addr} {M : Mem} {vs : List V} {ds : List D} {Q : VK} (h : Post c (rD c) H as M (.ok (.tup ds)) Q) (m : MemR c.K c.mg H as M) (r : RepL c.K H as vs ds) : ∀ p, H p = none → Q (.ref p) (upd H p (.tup vs)) := fun p hp =>
  h as _ _ (Ext.new hp) (m.new hp) (Rep.newT r hp)
theorem at_end {α : Type} (l : List α) (x : α) : (l ++ [x])[l.length]? = some x := by simp
theorem Post.newM {c : Ctx} {H : Hp} {as : List Addr} {M : Mem} {o : HO} {u : MO} {Q : VK} (h : Post c (rD c) H as (M ++ [u]) (.ok (.ref M.length)) Q) (m : MemR c.K c.mg H as M) {p : Addr} (hp : H p = none) (r : ORep c.K c.mg (upd H p o) (as ++ [p]) p u) : Q (.ref p) (upd H p o) :=
  h (as ++ [p]) _ _ (Ext.newM hp) (m.newM hp r) (.ref (by rw [← m.len]; exact at_end as p))
theorem Post.newL {c : Ctx} {H : Hp} {as : List Addr} {M M' : Mem} {z : D} {vs : List V} {ds : List D} {Q : VK} (hz : DL.newL ds M = some (z, M')) (h : Post c (rD c) H as M' (.ok z) Q) (m : MemR c.K c.mg H as M) (r : RepL c.K H as vs ds) : vs.length ≤ sizeLine ∧ ∀ p, H p = none → Q (.ref p) (upd H p (.lst vs)) := by
  unfold DL.newL at hz
  split at hz
  · rename_i hl
    cases hz
    exact ⟨by rw [r.length]; exact hl, fun p hp => h.newM m hp ⟨vs, upd_same, r.up (Ext.newM hp)⟩⟩
  · cases hz
section
variable {X : Cx} {E : XK} {a b e : Expr} {es : List Expr} {fa fb : Cp D} {ft : Cp (List D)} {pos : Pos}
theorem da_nil : PA X [] (tA (cX X E) aNil) := pa_nil.imp fun σ H Q ⟨as, M, ρ, r, M', hs, hm, hf, hp⟩ => by
  cases hf
  exact hp.ok hm .nil
theorem da_cons (ha : PE X e (tD (cX X E) fa)) (hr : PA X es (tA (cX X E) ft)) (hs : starEach (e :: es) X.env = (false, eval e X.env) :: starEach es X.env := by rfl) : PA X (e :: es) (tA (cX X E) (aCons fa ft)) :=
  (pa_cons ha hr hs).imp fun σ H Q ⟨as, M, ρ, w, M', hs, hm, hf, hp⟩ =>
    run_bind hs hm hf hp fun as1 v H1 d M1 e1 s1 m1 r1 f1 p1 => run_bind s1 m1 f1 p1 fun as2 vs H2 ds M2 e2 s2 m2 r2 f2 p2 => by
      cases f2
      exact p2.ok m2 (.cons (r1.up e2) r2)
theorem d_tup {k : Nat} (h : PA X es (tA (cX X E) ft)) : PE X (.Tuple es k pos) (tD (cX X E) (eTup ft)) := (pe_tup h).imp fun σ H Q ⟨as, M, ρ, w, M', hs, hm, hf, hp⟩ =>
  run_bind hs hm hf hp fun as1 vs H1 ds M1 e1 s1 m1 r1 f1 p1 => by
    obtain ⟨z, rfl, hz⟩ := run_mem f1
    split at hz
    · rename_i hl
      cases hz
      exact ⟨by rw [RepL.length r1]; exact hl, p1.newT m1 r1⟩
    · cases hz
theorem d_lst (h : PA X es (tA (cX X E) ft)) : PE X (.List es pos) (tD (cX X E) (eLst ft)) := (pe_lst h).imp fun σ H Q ⟨as, M, ρ, w, M', hs, hm, hf, hp⟩ =>
  run_bind hs hm hf hp fun as1 vs H1 ds M1 e1 s1 m1 r1 f1 p1 => by
    obtain ⟨z, rfl, hz⟩ := run_mem f1
    exact p1.newL hz m1 r1
end
theorem t_cb {ft : Cp (List D)} {r : List V → Hp → VK → Prop} {g : List D → Mem → Option (D × Mem)} {c : Ctx} (hg : SatC c r g) : ∀ σ H Q, tD c (eCB g ft) σ H Q → tCB r (tA c ft) σ H Q := fun σ H Q ⟨as, M, ρ, w, M', hs, hm, hf, hp⟩ =>
  run_bind hs hm hf hp fun as1 v H1 d M1 e1 s1 m1 r1 f1 p1 => by
    obtain ⟨z, rfl, hz⟩ := run_mem f1
    exact hg H1 as1 M1 v d z M' Q m1 r1 hz p1
section
variable {X : Cx} {E : XK} {x : Str} {id T : String} {e : Expr} {es : List Expr} {ft : Cp (List D)} {p pos : Pos} {r : List V → Hp → VK → Prop} {g : List D → Mem → Option (D × Mem)}
theorem d_callB (hc : CallR X (.builtin id) r) (hr : SatC (cX X E) r g) (hm : X.mg x = none) (ha : PA X (e :: es) (tA (cX X E) ft)) (hg : Gl X x := by rfl) (hv : bootBuiltins x = some (.builtin id) := by decide +kernel) (hn : x ≠ "__name__" := by decide) (hdb : (x == ("__debug__" : Str)) = false := by decide)
    (he : starEach (e :: es) X.env = (false, eval e X.env) :: starEach es X.env := by rfl) (hpl : (backTo pos (starEach es X.env)).any (·.1) = false := by rfl) : PE X (.Call (.Name x p) (e :: es) [] pos) (tD (cX X E) (eCB g ft)) :=
  (pe_callB hc hg hm hv ha hn hdb he hpl).imp (t_cb hr)
theorem d_callTy (hc : CallR X (.type T) r) (hr : SatC (cX X E) r g) (hm : X.mg x = none) (ha : PA X (e :: es) (tA (cX X E) ft)) (hg : Gl X x := by rfl) (hv : bootBuiltins x = some (.type T) := by decide +kernel) (hn : x ≠ "__name__" := by decide) (hdb : (x == ("__debug__" : Str)) = false := by decide)
    (he : starEach (e :: es) X.env = (false, eval e X.env) :: starEach es X.env := by rfl) (hpl : (backTo pos (starEach es X.env)).any (·.1) = false := by rfl) : PE X (.Call (.Name x p) (e :: es) [] pos) (tD (cX X E) (eCB g ft)) :=
  (pe_callTy hc hg hm hv ha hn hdb he hpl).imp (t_cb hr)
end

/-! ### tests -/
def tOfE (f : Cp D) : Cp Bool := bindC f fun x => match x with
  | .bl b => pureC b
  | _ => failC
/-- a value's truth -/
def truD (M : Mem) : D → Option Bool
  | .non => some false
  | .bl b => some b
  | .int i => some (i != 0)
  | .str y => if y.length ≤ sizeLine then some ((y.length : Int) != 0) else none
  | .tup xs => some (!xs.isEmpty)
  | .fls xs => some (!xs.isEmpty)
  | .ref l => match M[l]? with
    | some (.lst xs) => some (!xs.isEmpty)
    | some (.dK kvs) => some (!kvs.isEmpty)
    | _ => none
  | .ty _ => none
def tTru (f : Cp D) : Cp Bool := bindC f fun x => fun _ M => match truD M x with
  | some b => some (.ok b, M)
  | none => none
def tAndD (a b : Cp Bool) : Cp Bool := bindC a fun x => if x = true then b else pureC false
def tOrD (a b : Cp Bool) : Cp Bool := bindC a fun x => if x = true then pureC true else b
def tNotD (a : Cp Bool) : Cp Bool := bindC a fun x => pureC (!x)
def eIf (t : Cp Bool) (a b : Cp D) : Cp D := bindC t fun x => if x = true then a else b
theorem truV_of {c : Ctx} {H : Hp} {as : List Addr} {M : Mem} {v : V} {d : D} {b : Bool} (m : MemR c.K c.mg H as M) (r : Rep c.K H as v d) (h : truD M d = some b) : TruV c.K v H b := by
  cases r with
  | non => cases h; rfl
  | bl => cases h; rfl
  | int => cases h; rfl
  | ty n => cases h
  | str y =>
    have h' : (if y.length ≤ sizeLine then some ((y.length : Int) != 0) else none) = some b := h
    split at h'
    · cases h'
      exact ⟨by assumption, rfl⟩
    · cases h'
  | tup h1 h2 =>
    cases h
    refine .inr (.inl ⟨_, h1, ?_⟩)
    cases h2 <;> rfl
  | fls h1 h2 =>
    cases h
    refine .inl ⟨_, h1.sq, ?_⟩
    cases h2 <;> rfl
  | ref h1 =>
    rename_i a l
    have h' : (match M[l]? with
      | some (.lst xs) => some (!xs.isEmpty)
      | some (.dK kvs) => some (!kvs.isEmpty)
      | _ => none) = some b := h
    split at h'
    · rename_i xs e
      cases h'
      obtain ⟨vs, e1, r1⟩ := m.ob _ _ _ h1 e
      refine .inl ⟨vs, SqL.of e1, ?_⟩
      cases r1 <;> rfl
    · rename_i kvs e
      cases h'
      obtain ⟨vs, e1, r1⟩ := m.ob _ _ _ h1 e
      refine .inr (.inr ⟨vs, e1, ?_⟩)
      have hl : vs.length = kvs.length := by simpa using congrArg List.length r1.1
      cases vs <;> cases kvs <;> simp_all
    · cases h'
section
variable {X : Cx} {E : XK} {a b e : Expr} {rest : List Expr} {fa fb : Cp D} {ta tb : Cp Bool} {pos : Pos}
theorem t_test {c : Ctx} : ∀ σ H Q, tT c (tOfE fa) σ H Q → tB (tD c fa) σ H Q := fun σ H Q ⟨as, M, ρ, w, M', hs, hm, hf, hp⟩ =>
  run_bind hs hm hf hp fun as1 v H1 d M1 e1 s1 m1 r1 f1 p1 => by
    cases r1 with
    | bl b =>
      cases f1
      exact ⟨b, rfl, p1.ok m1 rfl⟩
    | _ => cases f1
theorem t_val (h : PE X e (tD (cX X E) fa)) (he : ∀ whole, isTrue e X.env whole = (do let v ← whole; standAt e.pos; holding [v] (truthy v)) := by intro _; rfl) : PT X e (tT (cX X E) (tOfE fa)) := (pt_val h he).imp t_test
theorem t_tru (h : PE X e (tD (cX X E) fa)) (he : ∀ whole, isTrue e X.env whole = (do let v ← whole; standAt e.pos; holding [v] (truthy v)) := by intro _; rfl) : PT X e (tT (cX X E) (tTru fa)) := (pt_truth h he).imp fun σ H Q ⟨as, M, ρ, w, M', hs, hm, hf, hp⟩ =>
  run_bind hs hm hf hp fun as1 v H1 d M1 e1 s1 m1 r1 f1 p1 => by
    have f1' : (match truD M1 d with
      | some b => some (Except.ok (ε := Exc) b, M1)
      | none => none) = some (w, M') := f1
    split at f1'
    · rename_i b eb
      cases f1'
      exact ⟨b, truV_of m1 r1 eb, p1.ok m1 rfl⟩
    · cases f1'
theorem t_cmp {op : CmpOp} {r : R2} {g : D → D → Mem → Option (D × Mem)} (ho : OpR X (compareOp op) r) (hg : SatR2 (cX X E) r g) (ha : PE X a (tD (cX X E) fa)) (hb : PE X b (tD (cX X E) fb)) (hm : behindInMarks op b = false := by first | exact nomark _ | rfl) : PT X (.Compare a [op] [b] pos) (tT (cX X E) (tOfE (eBin g fa fb))) :=
  (pt_cmpR ho ha hb hm).imp fun σ H Q ⟨as, M, ρ, w, M', hs, hm, hf, hp⟩ => by
    have hf' : bindC fa (fun x => bindC fb fun y => bindC (memC (g x y)) fun z => match z with
      | .bl b => pureC b
      | _ => failC) ρ M = some (w, M') := by
      rw [← hf]
      unfold tOfE eBin bindC
      cases fa ρ M with
      | none => rfl
      | some q =>
        obtain ⟨q, M1⟩ := q
        cases q with
        | error x => rfl
        | ok d =>
          dsimp only
          cases fb ρ M1 with
          | none => rfl
          | some q =>
            obtain ⟨q, M2⟩ := q
            cases q <;> rfl
    exact run_bind hs hm hf' hp fun as1 v H1 d M1 e1 s1 m1 r1 f1 p1 => run_bind s1 m1 f1 p1 fun as2 u H2 d2 M2 e2 s2 m2 r2 f2 p2 => by
      unfold bindC at f2
      cases hz : memC (g d d2) ρ M2 with
      | none => rw [hz] at f2; cases f2
      | some q =>
        obtain ⟨q, M3⟩ := q
        obtain ⟨z, e3, hz3⟩ := run_mem hz
        subst e3
        rw [hz] at f2
        refine hg H2 as2 M2 v u d d2 z M3 _ m2 (r1.up e2) r2 hz3 fun as3 v3 H3 e3 m3 r3 => ?_
        cases r3 with
        | bl b =>
          cases f2
          exact ⟨b, rfl, (p2.up e3).ok m3 rfl⟩
        | _ => cases f2
theorem t_not (h : PT X a (tT (cX X E) ta)) : PT X (.UnaryOp .Not a pos) (tT (cX X E) (tNotD ta)) := (pt_not h).imp fun σ H Q ⟨as, M, ρ, w, M', hs, hm, hf, hp⟩ =>
  run_bind hs hm hf hp fun as1 v H1 d M1 e1 s1 m1 r1 f1 p1 => by
    cases f1
    obtain rfl : v = d := r1
    exact p1.ok m1 rfl
theorem w_and1 (h : PT X a (tT (cX X E) ta)) : PW X (.BoolOp .And [a] pos) (tT (cX X E) ta) := pw_and1 h
theorem w_or1 (h : PT X a (tT (cX X E) ta)) : PW X (.BoolOp .Or [a] pos) (tT (cX X E) ta) := pw_or1 h
theorem w_and (ha : PT X a (tT (cX X E) ta)) (hb : PW X (.BoolOp .And (b :: rest) pos) (tT (cX X E) tb)) : PW X (.BoolOp .And (a :: b :: rest) pos) (tT (cX X E) (tAndD ta tb)) := (pw_and ha hb).imp fun σ H Q ⟨as, M, ρ, w, M', hs, hm, hf, hp⟩ =>
  run_bind hs hm hf hp fun as1 v H1 d M1 e1 s1 m1 r1 f1 p1 => by
    obtain rfl : v = d := r1
    by_cases hv : v = true
    · rw [if_pos hv] at f1 ⊢
      exact ⟨as1, M1, ρ, w, M', s1, m1, f1, p1⟩
    · rw [if_neg hv] at f1 ⊢
      cases f1
      exact p1.ok m1 rfl
theorem w_or (ha : PT X a (tT (cX X E) ta)) (hb : PW X (.BoolOp .Or (b :: rest) pos) (tT (cX X E) tb)) : PW X (.BoolOp .Or (a :: b :: rest) pos) (tT (cX X E) (tOrD ta tb)) := (pw_or ha hb).imp fun σ H Q ⟨as, M, ρ, w, M', hs, hm, hf, hp⟩ =>
  run_bind hs hm hf hp fun as1 v H1 d M1 e1 s1 m1 r1 f1 p1 => by
    obtain rfl : v = d := r1
    by_cases hv : v = true
    · rw [if_pos hv] at f1 ⊢
      cases f1
      exact p1.ok m1 rfl
    · rw [if_neg hv] at f1 ⊢
      exact ⟨as1, M1, ρ, w, M', s1, m1, f1, p1⟩
theorem d_ifExp {t : Expr} {tc : Cp Bool} (hc : PT X t (tT (cX X E) tc)) (ha : PE X a (tD (cX X E) fa)) (hb : PE X b (tD (cX X E) fb)) : PE X (.IfExp t a b pos) (tD (cX X E) (eIf tc fa fb)) := (pe_ifExp hc ha hb).imp fun σ H Q ⟨as, M, ρ, w, M', hs, hm, hf, hp⟩ =>
  run_bind hs hm hf hp fun as1 v H1 d M1 e1 s1 m1 r1 f1 p1 => by
    obtain rfl : v = d := r1
    by_cases hv : v = true
    · rw [if_pos hv] at f1 ⊢
      exact ⟨as1, M1, ρ, w, M', s1, m1, f1, p1⟩
    · rw [if_neg hv] at f1 ⊢
      exact ⟨as1, M1, ρ, w, M', s1, m1, f1, p1⟩
end
/-! and, or, not as values: all but the last True or False -/
def eAndV (a b : Cp D) : Cp D := bindC a fun x => match x with
  | .bl true => b
  | .bl false => pureC (.bl false)
  | _ => failC
def eOrV (a b : Cp D) : Cp D := bindC a fun x => match x with
  | .bl true => pureC (.bl true)
  | .bl false => b
  | _ => failC
def eNotV (a : Cp D) : Cp D := bindC a fun x => fun _ M => match truD M x with
  | some b => some (.ok (.bl (!b)), M)
  | none => none
section
variable {X : Cx} {E : XK} {a b e : Expr} {rest : List Expr} {op : BoolOp} {fa fb : Cp D} {pos : Pos}
theorem d_one (h : PE X a (tD (cX X E) fa)) : PE X (.BoolOp op [a] pos) (tD (cX X E) fa) := pe_one h
theorem d_and (ha : PE X a (tD (cX X E) fa)) (hb : PE X (.BoolOp .And (b :: rest) pos) (tD (cX X E) fb)) : PE X (.BoolOp .And (a :: b :: rest) pos) (tD (cX X E) (eAndV fa fb)) := (pe_and ha hb).imp fun σ H Q ⟨as, M, ρ, w, M', hs, hm, hf, hp⟩ =>
  run_bind hs hm hf hp fun as1 v H1 d M1 e1 s1 m1 r1 f1 p1 => by
    cases r1 with
    | bl b =>
      refine ⟨b, rfl, ?_⟩
      cases b with
      | true => exact ⟨as1, M1, ρ, w, M', s1, m1, f1, p1⟩
      | false =>
        cases f1
        exact p1.ok m1 (.bl false)
    | _ => cases f1
theorem d_or (ha : PE X a (tD (cX X E) fa)) (hb : PE X (.BoolOp .Or (b :: rest) pos) (tD (cX X E) fb)) : PE X (.BoolOp .Or (a :: b :: rest) pos) (tD (cX X E) (eOrV fa fb)) := (pe_or ha hb).imp fun σ H Q ⟨as, M, ρ, w, M', hs, hm, hf, hp⟩ =>
  run_bind hs hm hf hp fun as1 v H1 d M1 e1 s1 m1 r1 f1 p1 => by
    cases r1 with
    | bl b =>
      refine ⟨b, rfl, ?_⟩
      cases b with
      | false => exact ⟨as1, M1, ρ, w, M', s1, m1, f1, p1⟩
      | true =>
        cases f1
        exact p1.ok m1 (.bl true)
    | _ => cases f1
theorem d_not (ha : PE X a (tD (cX X E) fa)) : PE X (.UnaryOp .Not a pos) (tD (cX X E) (eNotV fa)) := (pe_notT ha).imp fun σ H Q ⟨as, M, ρ, w, M', hs, hm, hf, hp⟩ =>
  run_bind hs hm hf hp fun as1 v H1 d M1 e1 s1 m1 r1 f1 p1 => by
    have f1' : (match truD M1 d with
      | some b => some (Except.ok (ε := Exc) (D.bl (!b)), M1)
      | none => none) = some (w, M') := f1
    split at f1'
    · rename_i b eb
      cases f1'
      exact ⟨b, truV_of m1 r1 eb, p1.ok m1 (.bl _)⟩
    · cases f1'
end
end DL

namespace DL
open PySem PySem.Spec PyProof.Rows L2

/-! ### statements -/
inductive Rr where
  | nx | bk | ct
  | rt (d : D)
  | ex (x : Exc)
abbrev Sm := En → Mem → Option (Rr × En × Mem)
def PostS (c : Ctx) (H : Hp) (as : List Addr) (r : Rr) (ρ' : En) (M' : Mem) (D' : Ends) : Prop :=
  match r with
  | .nx => ∀ as' σ' H', Ext H H' as as' → SlotR c.K H' as' σ' ρ' → MemR c.K c.mg H' as' M' → D'.nx σ' H'
  | .bk => ∀ as' σ' H', Ext H H' as as' → SlotR c.K H' as' σ' ρ' → MemR c.K c.mg H' as' M' → D'.bk σ' H'
  | .ct => ∀ as' σ' H', Ext H H' as as' → SlotR c.K H' as' σ' ρ' → MemR c.K c.mg H' as' M' → D'.ct σ' H'
  | .rt d => ∀ as' v H', Ext H H' as as' → MemR c.K c.mg H' as' M' → Rep c.K H' as' v d → D'.rt v H'
  | .ex x => ∀ as' cls dd H', Ext H H' as as' → MemR c.K c.mg H' as' M' → ExcR c H' as' cls dd x → c.E cls dd H'
def tS (c : Ctx) (g : Sm) : TS := fun D' σ H => ∃ as M ρ r ρ' M', SlotR c.K H as σ ρ ∧ MemR c.K c.mg H as M ∧ g ρ M = some (r, ρ', M') ∧ PostS c H as r ρ' M' D'
theorem PostS.up {c : Ctx} {H H1 : Hp} {as as1 : List Addr} {r : Rr} {ρ' : En} {M' : Mem} {D' : Ends} (h : PostS c H as r ρ' M' D') (e : Ext H H1 as as1) : PostS c H1 as1 r ρ' M' D' := by
  cases r with
  | nx => exact fun as' σ' H' e' => h as' σ' H' (e.trans e')
  | bk => exact fun as' σ' H' e' => h as' σ' H' (e.trans e')
  | ct => exact fun as' σ' H' e' => h as' σ' H' (e.trans e')
  | rt d => exact fun as' v H' e' => h as' v H' (e.trans e')
  | ex x => exact fun as' cls dd H' e' => h as' cls dd H' (e.trans e')
def nxS : Sm := fun ρ M => some (.nx, ρ, M)
def seqS (g k : Sm) : Sm := fun ρ M => match g ρ M with
  | some (.nx, ρ1, M1) => k ρ1 M1
  | some (r, ρ1, M1) => some (r, ρ1, M1)
  | none => none
/-- a value, then a statement -/
def bindS {α : Type} (f : Cp α) (k : α → Sm) : Sm := fun ρ M => match f ρ M with
  | some (.ok a, M1) => k a ρ M1
  | some (.error x, M1) => some (.ex x, ρ, M1)
  | none => none
theorem run_bindS {α β : Type} {c : Ctx} {R : Rl α β} {f : Cp α} {k : α → Sm} {σ : L2.St} {ρ ρ' : En} {H : Hp} {as : List Addr} {M M' : Mem} {r : Rr} {D' : Ends} {P : β → Hp → Prop} (hs : SlotR c.K H as σ ρ) (hm : MemR c.K c.mg H as M) (hf : bindS f k ρ M = some (r, ρ', M')) (hp : PostS c H as r ρ' M' D')
    (hP : ∀ as1 v H1 a M1, Ext H H1 as as1 → SlotR c.K H1 as1 σ ρ → MemR c.K c.mg H1 as1 M1 → R H1 as1 v a → k a ρ M1 = some (r, ρ', M') → PostS c H1 as1 r ρ' M' D' → P v H1) : tG c R f σ H P := by
  unfold bindS at hf
  split at hf
  · rename_i a M1 e
    exact ⟨as, M, ρ, .ok a, M1, hs, hm, e, fun as' v H' ex m r => hP as' v H' a M1 ex (hs.up ex) m r hf (hp.up ex)⟩
  · rename_i x M1 e
    cases hf
    exact ⟨as, M, ρ, .error x, M', hs, hm, e, hp⟩
  · cases hf
def sExpr (e : Cp D) : Sm := bindS e fun _ => nxS
def sRet (e : Cp D) : Sm := bindS e fun d => fun ρ M => some (.rt d, ρ, M)
def sRetN : Sm := fun ρ M => some (.rt .non, ρ, M)
def sPass : Sm := nxS
def sBrk : Sm := fun ρ M => some (.bk, ρ, M)
def sCont : Sm := fun ρ M => some (.ct, ρ, M)
def sIf (t : Cp Bool) (a b : Sm) : Sm := bindS t fun x => if x = true then a else b
def sNever : Sm := fun _ _ => none
section
variable {X : Cx} {E : XK} {e : Expr} {st : Stmt} {rest : List Stmt} {fa : Cp D} {g k : Sm} {pos : Pos}
theorem ds_nil : PSs X [] (tS (cX X E) nxS) := pss_nil.imp fun D' σ H ⟨as, M, ρ, r, ρ', M', hs, hm, hf, hp⟩ => by
  cases hf
  exact hp as σ H Ext.refl hs hm
theorem ds_one (h : PS X st (tS (cX X E) g)) : PSs X [st] (tS (cX X E) g) := pss_one h
theorem ds_cons (h1 : PS X st (tS (cX X E) g)) (h2 : PSs X rest (tS (cX X E) k)) : PSs X (st :: rest) (tS (cX X E) (seqS g k)) := (pss_cons h1 h2).imp fun D' σ H ⟨as, M, ρ, r, ρ', M', hs, hm, hf, hp⟩ => by
  unfold seqS at hf
  split at hf
  · rename_i ρ1 M1 e
    exact ⟨as, M, ρ, .nx, ρ1, M1, hs, hm, e, fun as' σ' H' ex s m => ⟨as', M1, ρ1, r, ρ', M', s, m, hf, hp.up ex⟩⟩
  · rename_i r1 ρ1 M1 hn e
    cases hf
    refine ⟨as, M, ρ, r, ρ', M', hs, hm, e, ?_⟩
    cases r with
    | nx => exact (hn rfl).elim
    | bk => exact hp
    | ct => exact hp
    | rt d => exact hp
    | ex x => exact hp
  · cases hf
theorem ds_expr (h : PE X e (tD (cX X E) fa)) (hs : swapsWith e none pos.line X.env = pure false := by rfl) : PS X (.Expr e pos) (tS (cX X E) (sExpr fa)) := (ps_expr h hs).imp fun D' σ H ⟨as, M, ρ, r, ρ', M', hs, hm, hf, hp⟩ =>
  run_bindS hs hm hf hp fun as1 v H1 d M1 e1 s1 m1 r1 f1 p1 => by
    cases f1
    exact p1 as1 σ H1 Ext.refl s1 m1
theorem ds_ret (h : PE X e (tD (cX X E) fa)) : PS X (.Return (some e) pos) (tS (cX X E) (sRet fa)) := (ps_ret h).imp fun D' σ H ⟨as, M, ρ, r, ρ', M', hs, hm, hf, hp⟩ =>
  run_bindS hs hm hf hp fun as1 v H1 d M1 e1 s1 m1 r1 f1 p1 => by
    cases f1
    exact p1 as1 v H1 Ext.refl m1 r1
theorem ds_retN : PS X (.Return none pos) (tS (cX X E) sRetN) := ps_retN.imp fun D' σ H ⟨as, M, ρ, r, ρ', M', hs, hm, hf, hp⟩ => by
  cases hf
  exact hp as _ H Ext.refl hm .non
theorem ds_pass : PS X (.Pass pos) (tS (cX X E) sPass) := ps_pass.imp fun D' σ H ⟨as, M, ρ, r, ρ', M', hs, hm, hf, hp⟩ => by
  cases hf
  exact hp as σ H Ext.refl hs hm
theorem ds_break : PS X (.Break pos) (tS (cX X E) sBrk) := ps_break.imp fun D' σ H ⟨as, M, ρ, r, ρ', M', hs, hm, hf, hp⟩ => by
  cases hf
  exact hp as σ H Ext.refl hs hm
theorem ds_continue : PS X (.Continue pos) (tS (cX X E) sCont) := ps_continue.imp fun D' σ H ⟨as, M, ρ, r, ρ', M', hs, hm, hf, hp⟩ => by
  cases hf
  exact hp as σ H Ext.refl hs hm
theorem ds_never : PS X st (tS (cX X E) sNever) := (ps_never (st := st)).imp fun D' σ H ⟨as, M, ρ, r, ρ', M', hs, hm, hf, hp⟩ => by
  cases hf
theorem dss_never {sts : List Stmt} : PSs X sts (tS (cX X E) sNever) := (pss_never (sts := sts)).imp fun D' σ H ⟨as, M, ρ, r, ρ', M', hs, hm, hf, hp⟩ => by
  cases hf
theorem ds_if {t : Expr} {a b : List Stmt} {tc : Cp Bool} {ga gb : Sm} (hc : PT X t (tT (cX X E) tc)) (ha : PSs X a (tS (cX X E) ga)) (hb : PSs X b (tS (cX X E) gb)) : PS X (.If t a b pos) (tS (cX X E) (sIf tc ga gb)) := (ps_if hc ha hb).imp fun D' σ H ⟨as, M, ρ, r, ρ', M', hs, hm, hf, hp⟩ =>
  run_bindS hs hm hf hp fun as1 v H1 d M1 e1 s1 m1 r1 f1 p1 => by
    obtain rfl : v = d := r1
    by_cases hv : v = true
    · rw [if_pos hv] at f1 ⊢
      exact ⟨as1, M1, ρ, r, ρ', M', s1, m1, f1, p1⟩
    · rw [if_neg hv] at f1 ⊢
      exact ⟨as1, M1, ρ, r, ρ', M', s1, m1, f1, p1⟩
end

/-! ### targets -/
def SameBut (vs : List Nat) (σ σ' : L2.St) : Prop := ∀ ws : List Nat, (∀ i ∈ vs, i ∈ ws) → wipe σ' ws = wipe σ ws
theorem wipe_set {i : Nat} {x : Option V} : ∀ {ws : List Nat} {σ : L2.St}, i ∈ ws → wipe (σ.set i x) ws = wipe σ ws
  | [], _, h => by simp at h
  | w :: ws, σ, h => by
    unfold wipe
    by_cases e : i = w
    · subst e
      by_cases hm : i ∈ ws
      · rw [wipe_set hm]
      · clear h
        have : ∀ (ws : List Nat) (σ : L2.St), wipe (σ.set i x) ws = (wipe (σ.set i x) ws) := fun _ _ => rfl
        have key : ∀ (ws : List Nat) (σ : L2.St), i ∉ ws → wipe (σ.set i x) ws = (wipe σ ws).set i x := by
          intro ws
          induction ws with
          | nil => intro σ _; rfl
          | cons u us ih =>
            intro σ hn
            have h1 : i ≠ u := fun z => hn (by rw [z]; exact List.mem_cons_self)
            have h2 : i ∉ us := fun z => hn (List.mem_cons_of_mem _ z)
            show (wipe (σ.set i x) us).set u none = ((wipe σ us).set u none).set i x
            rw [ih σ h2, List.set_comm _ _ h1]
        rw [key ws σ hm, List.set_set]
    · have hm : i ∈ ws := by
        rcases List.mem_cons.mp h with z | z
        · exact (e z).elim
        · exact z
      rw [wipe_set hm]
theorem wipe_wipe : ∀ (vs ws : List Nat) (σ : L2.St), (∀ i ∈ vs, i ∈ ws) → wipe (wipe σ vs) ws = wipe σ ws
  | [], _, _, _ => rfl
  | v :: vs, ws, σ, h => by
    show wipe ((wipe σ vs).set v none) ws = wipe σ ws
    rw [wipe_set (h v List.mem_cons_self), wipe_wipe vs ws σ fun i hi => h i (List.mem_cons_of_mem _ hi)]
structure Tgt where
  f : D → En → Option En
  sl : List Nat
structure Tgts where
  f : List D → En → Option En
  sl : List Nat
def gN (i : Nat) : Tgt := ⟨fun d ρ => some (ρ.set i (some d)), [i]⟩
def gsNil : Tgts := ⟨fun ds ρ => match ds with
  | [] => some ρ
  | _ => none, []⟩
def gsCons (t : Tgt) (u : Tgts) : Tgts := ⟨fun ds ρ => match ds with
  | [] => none
  | d :: r => match t.f d ρ with
    | some ρ1 => u.f r ρ1
    | none => none, t.sl ++ u.sl⟩
def gT (n : Nat) (t : Tgts) : Tgt := ⟨fun d ρ => match d with
  | .tup ds => if ds.length = n then t.f ds ρ else none
  | _ => none, t.sl⟩
def tTg (c : Ctx) (t : Tgt) : TG := fun v σ H Q => ∃ as ρ d ρ', Rep c.K H as v d ∧ SlotR c.K H as σ ρ ∧ t.f d ρ = some ρ' ∧ ∀ σ', SlotR c.K H as σ' ρ' → SameBut t.sl σ σ' → Q σ' H
def tTgs (c : Ctx) (t : Tgts) : TGs := fun vs σ H Q => ∃ as ρ ds ρ', RepL c.K H as vs ds ∧ SlotR c.K H as σ ρ ∧ t.f ds ρ = some ρ' ∧ ∀ σ', SlotR c.K H as σ' ρ' → SameBut t.sl σ σ' → Q σ' H
theorem SlotR.set {K : PySem.W.Frag} {H : Hp} {as : List Addr} {σ : L2.St} {ρ : En} {i : Nat} {v : V} {d : D} (h : SlotR K H as σ ρ) (r : Rep K H as v d) : SlotR K H as (σ.set i (some v)) (ρ.set i (some d)) := by
  refine ⟨by simp [h.len], fun j e he => ?_⟩
  by_cases hj : j = i
  · subst hj
    have hl : j < ρ.length := by
      have := (List.getElem?_eq_some_iff.mp he).1
      simpa using this
    rw [List.getElem?_set_self hl] at he
    cases he
    exact ⟨v, by rw [List.getElem?_set_self (by rw [h.len]; exact hl)], r⟩
  · rw [List.getElem?_set_ne (fun z => hj z.symm)] at he
    obtain ⟨w, e1, r1⟩ := h.at_ j e he
    exact ⟨w, by rw [List.getElem?_set_ne (fun z => hj z.symm)]; exact e1, r1⟩
theorem SameBut.set {σ : L2.St} {i : Nat} {v : Option V} : SameBut [i] σ (σ.set i v) := fun ws h => wipe_set (h i (by simp))
section
variable {X : Cx} {E : XK} {e : Expr} {es : List Expr} {fa : Cp D} {pos : Pos}
theorem dg_name (i : Nat) {x : Str} (hN : X.N.Nodup) (hi : X.N[i]? = some x := by rfl) (hx : Loc X.env.scope x := by first | exact .inl rfl | exact .inr rfl) (hf : X.fn x = true ∨ X.env.scope.names.lookup x = some .local := by first | exact .inl rfl | exact .inr rfl) : PG X (.Name x pos) (tTg (cX X E) (gN i)) :=
  (pg_name hN hi hx hf).imp fun v σ H Q ⟨as, ρ, d, ρ', r, s, hf, hq⟩ => by
    cases hf
    exact hq _ (s.set r) SameBut.set
theorem dgs_nil : PGs X [] (tTgs (cX X E) gsNil) := pgs_nil.imp fun vs σ H Q ⟨as, ρ, ds, ρ', r, s, hf, hq⟩ => by
  cases r with
  | nil =>
    cases hf
    exact ⟨rfl, hq σ s fun _ _ => rfl⟩
  | cons _ _ => cases hf
theorem dgs_cons {t : Tgt} {u : Tgts} (h1 : PG X e (tTg (cX X E) t)) (h2 : PGs X es (tTgs (cX X E) u)) (hs : (assignEach (e :: es) X.env).map (·.2) = assign e X.env :: (assignEach es X.env).map (·.2) := by rfl) : PGs X (e :: es) (tTgs (cX X E) (gsCons t u)) :=
  (pgs_cons h1 h2 hs).imp fun vs σ H Q ⟨as, ρ, ds, ρ', r, s, hf, hq⟩ => by
    cases r with
    | nil => cases hf
    | @cons v vr d dr r1 r2 =>
      have hf' : (match t.f d ρ with
        | some ρ1 => u.f dr ρ1
        | none => none) = some ρ' := hf
      split at hf'
      · rename_i ρ1 e1
        refine ⟨v, vr, rfl, as, ρ, d, ρ1, r1, s, e1, fun σ1 s1 b1 => ⟨as, ρ1, dr, ρ', r2, s1, hf', fun σ2 s2 b2 => hq σ2 s2 fun ws hw => ?_⟩⟩
        rw [b2 ws fun i hi => hw i (List.mem_append_right _ hi), b1 ws fun i hi => hw i (List.mem_append_left _ hi)]
      · cases hf'
theorem dg_tup {k n : Nat} {t : Tgts} (hc : X.calm = true) (h : PGs X es (tTgs (cX X E) t)) (hn : (assignEach es X.env).length = n := by rfl) (hst : (assignEach es X.env).findIdx? (·.1) = none := by rfl) : PG X (.Tuple es k pos) (tTg (cX X E) (gT n t)) := by
  refine PG.imp (t := gTup X.K n (tTgs (cX X E) t)) (pg_tup hc h hn hst) fun v σ H Q ⟨as, ρ, d, ρ', r, s, hf, hq⟩ => ?_
  cases r with
  | @tup a xs ds h1 h2 =>
    have hf' : (if ds.length = n then t.f ds ρ else none) = some ρ' := hf
    split at hf'
    · rename_i hl
      exact ⟨a, xs, rfl, h1, by rw [h2.length]; exact hl, as, ρ, ds, ρ', h2, s, hf', hq⟩
    · cases hf'
  | _ => cases hf
end

/-! ### assignments -/
def sAsg (e : Cp D) (t : Tgt) : Sm := bindS e fun d => fun ρ M => match t.f d ρ with
  | some ρ' => some (.nx, ρ', M)
  | none => none
def sPar2 (i j : Nat) (t : Cp (List D)) : Sm := bindS t fun ds => fun ρ M => match ds with
  | [a, b] => some (.nx, (ρ.set i (some a)).set j (some b), M)
  | _ => none
def sPar3 (i j l : Nat) (t : Cp (List D)) : Sm := bindS t fun ds => fun ρ M => match ds with
  | [a, b, c] => some (.nx, ((ρ.set i (some a)).set j (some b)).set l (some c), M)
  | _ => none
section
variable {X : Cx} {E : XK} {tg e : Expr} {fa : Cp D} {ft : Cp (List D)} {t : Tgt} {pos : Pos}
theorem t_asg {c : Ctx} : ∀ D' σ H, tS c (sAsg fa t) D' σ H → tAsg (tD c fa) (tTg c t) D' σ H := fun D' σ H ⟨as, M, ρ, r, ρ', M', hs, hm, hf, hp⟩ =>
  run_bindS hs hm hf hp fun as1 v H1 d M1 e1 s1 m1 r1 f1 p1 => by
    have f1' : (match t.f d ρ with
      | some ρ' => some (Rr.nx, ρ', M1)
      | none => none) = some (r, ρ', M') := f1
    split at f1'
    · rename_i ρ2 e2
      cases f1'
      exact ⟨as1, ρ, d, ρ', r1, s1, e2, fun σ' s2 _ => p1 as1 σ' H1 Ext.refl s2 m1⟩
    · cases f1'
theorem ds_asg (he : PE X e (tD (cX X E) fa)) (hg : PG X tg (tTg (cX X E) t)) (hs : swapsWithSole [tg] e pos.line X.env = pure false := by rfl) (hw : swappedStores [tg] e X.env = pure none := by rfl)
    (h1 : (assignEach [tg] X.env).map (·.2) = [assign tg X.env] := by rfl) : PS X (.Assign [tg] e pos) (tS (cX X E) (sAsg fa t)) := (ps_asg he hg hs hw h1).imp t_asg
theorem SameBut_name {σ : L2.St} {i : Nat} {v : Option V} : SameBut [i] σ (σ.set i v) := SameBut.set
theorem ds_set (i : Nat) {x : Str} {pos' : Pos} (hN : X.N.Nodup) (he : PE X e (tD (cX X E) fa)) (hi : X.N[i]? = some x := by rfl) (hx : Loc X.env.scope x := by first | exact .inl rfl | exact .inr rfl) (hs : swapsWith e (some (.Name x pos')) pos.line X.env = pure false := by rfl) (hf : X.fn x = true ∨ X.env.scope.names.lookup x = some .local := by first | exact .inl rfl | exact .inr rfl) :
    PS X (.Assign [.Name x pos'] e pos) (tS (cX X E) (sAsg fa (gN i))) := (ps_set hN hi hx he hs hf).imp fun D' σ H ⟨as, M, ρ, r, ρ', M', hs, hm, hf, hp⟩ =>
  run_bindS hs hm hf hp fun as1 v H1 d M1 e1 s1 m1 r1 f1 p1 => by
    cases f1
    exact p1 as1 _ H1 Ext.refl (s1.set r1) m1
theorem ds_par2 (i j : Nat) {x y : Str} {a b : Expr} {px py pt : Pos} {kt k2 pt2} (hc : X.calm = true) (hN : X.N.Nodup) (ha : PA X [a, b] (tA (cX X E) ft)) (hi : X.N[i]? = some x := by rfl) (hj : X.N[j]? = some y := by rfl) (hij : i ≠ j := by decide)
    (hx : X.env.scope.names.lookup x = some .local := by rfl) (hy : X.env.scope.names.lookup y = some .local := by rfl)
    (hw : swappedStores [.Tuple [.Name x px, .Name y py] kt pt] (.Tuple [a, b] k2 pt2) X.env = pure (some [x, y]) := by rfl)
    (hs : swapsWithSole [.Tuple [.Name x px, .Name y py] kt pt] (.Tuple [a, b] k2 pt2) pos.line X.env = pure false := by rfl) :
    PS X (.Assign [.Tuple [.Name x px, .Name y py] kt pt] (.Tuple [a, b] k2 pt2) pos) (tS (cX X E) (sPar2 i j ft)) := (ps_par hc hN hi hj hij hx hy ha hw hs).imp fun D' σ H ⟨as, M, ρ, r, ρ', M', hs, hm, hf, hp⟩ =>
  run_bindS hs hm hf hp fun as1 v H1 d M1 e1 s1 m1 r1 f1 p1 => by
    have f1' : (match (generalizing := false) d with
      | [a, b] => some (Rr.nx, (ρ.set i (some a)).set j (some b), M1)
      | _ => none) = some (r, ρ', M') := f1
    split at f1'
    · rename_i x y
      cases r1 with
      | cons q1 q2 =>
        cases q2 with
        | cons q2 q3 =>
          cases q3
          cases f1'
          exact ⟨_, _, rfl, p1 as1 _ H1 Ext.refl ((s1.set q1).set q2) m1⟩
    · cases f1'
theorem ds_par3 (i j l : Nat) {x y z : Str} {a b d : Expr} {px py pz pt : Pos} {kt k2 pt2} (hc : X.calm = true) (hN : X.N.Nodup) (ha : PA X [a, b, d] (tA (cX X E) ft)) (hi : X.N[i]? = some x := by rfl) (hj : X.N[j]? = some y := by rfl) (hl : X.N[l]? = some z := by rfl) (hij : i ≠ j := by decide) (hil : i ≠ l := by decide) (hjl : j ≠ l := by decide)
    (hx : X.env.scope.names.lookup x = some .local := by rfl) (hy : X.env.scope.names.lookup y = some .local := by rfl) (hz : X.env.scope.names.lookup z = some .local := by rfl)
    (hw : swappedStores [.Tuple [.Name x px, .Name y py, .Name z pz] kt pt] (.Tuple [a, b, d] k2 pt2) X.env = pure (some [x, y, z]) := by rfl)
    (hs : swapsWithSole [.Tuple [.Name x px, .Name y py, .Name z pz] kt pt] (.Tuple [a, b, d] k2 pt2) pos.line X.env = pure false := by rfl) :
    PS X (.Assign [.Tuple [.Name x px, .Name y py, .Name z pz] kt pt] (.Tuple [a, b, d] k2 pt2) pos) (tS (cX X E) (sPar3 i j l ft)) := (ps_par3 hc hN hi hj hl hij hil hjl hx hy hz ha hw hs).imp fun D' σ H ⟨as, M, ρ, r, ρ', M', hs, hm, hf, hp⟩ =>
  run_bindS hs hm hf hp fun as1 v H1 d M1 e1 s1 m1 r1 f1 p1 => by
    have f1' : (match (generalizing := false) d with
      | [a, b, c] => some (Rr.nx, ((ρ.set i (some a)).set j (some b)).set l (some c), M1)
      | _ => none) = some (r, ρ', M') := f1
    split at f1'
    · rename_i x y z
      cases r1 with
      | cons q1 q2 =>
        cases q2 with
        | cons q2 q3 =>
          cases q3 with
          | cons q3 q4 =>
            cases q4
            cases f1'
            exact ⟨_, _, _, rfl, p1 as1 _ H1 Ext.refl (((s1.set q1).set q2).set q3) m1⟩
    · cases f1'
end
/-! o[i] = e -/
def SatSet (c : Ctx) (t : TSet) (g : D → D → D → Mem → Option Mem) : Prop := ∀ (H : Hp) (as : List Addr) (M : Mem) (x y v : V) (d e w : D) (M' : Mem) (Q : Hp → Prop), MemR c.K c.mg H as M → Rep c.K H as x d → Rep c.K H as y e → Rep c.K H as v w → g d e w M = some M' → (∀ as' H', Ext H H' as as' → MemR c.K c.mg H' as' M' → Q H') → t x y v H Q
def sSub (g : D → D → D → Mem → Option Mem) (e o i : Cp D) : Sm := bindS e fun w => bindS o fun d => bindS i fun j => fun ρ M => match g d j w M with
  | some M' => some (.nx, ρ, M')
  | none => none
section
variable {X : Cx} {E : XK} {o i e : Expr} {fe fo fi : Cp D} {pos tpos : Pos}
theorem ds_sub {t : TSet} {g : D → D → D → Mem → Option Mem} (ht : PSet X t) (hg : SatSet (cX X E) t g) (he : PE X e (tD (cX X E) fe)) (ho : PE X o (tD (cX X E) fo)) (hi : PE X i (tD (cX X E) fi))
    (ha : ∀ v, assign (.Subscript o i tpos) X.env v = (do
      let ov ← holding [v] (eval o X.env)
      let iv ← holding [v, ov] (eval i X.env)
      standAt tpos
      holding [v, ov, iv] (setItem ov iv v)
      release [v, ov, iv] []) := by intro _; rfl) (hs : swapsWithSole [.Subscript o i tpos] e pos.line X.env = pure false := by rfl) (hw : swappedStores [.Subscript o i tpos] e X.env = pure none := by rfl)
    (h1 : (assignEach [.Subscript o i tpos] X.env).map (·.2) = [assign (.Subscript o i tpos) X.env] := by rfl) : PS X (.Assign [.Subscript o i tpos] e pos) (tS (cX X E) (sSub g fe fo fi)) :=
  (ps_asg he (pg_sub ho hi ht ha) hs hw h1).imp fun D' σ H ⟨as, M, ρ, r, ρ', M', hs, hm, hf, hp⟩ =>
    run_bindS hs hm hf hp fun as1 v H1 d M1 e1 s1 m1 r1 f1 p1 => run_bindS s1 m1 f1 p1 fun as2 v2 H2 d2 M2 e2 s2 m2 r2 f2 p2 => run_bindS s2 m2 f2 p2 fun as3 v3 H3 d3 M3 e3 s3 m3 r3 f3 p3 => by
      have f3' : (match g d2 d3 d M3 with
        | some M' => some (Rr.nx, ρ, M')
        | none => none) = some (r, ρ', M') := f3
      split at f3'
      · rename_i M4 e4
        cases f3'
        exact hg H3 as3 M3 v2 v3 v d2 d3 d M' _ m3 (r2.up e3) r3 (r1.up (e2.trans e3)) e4 fun as' H' e' m' => p3 as' σ H' e' (s3.up e') m'
      · cases f3'
end

/-! ### loops -/
abbrev Its := List D × (Mem → Bool)
def ItR (c : Ctx) (H : Hp) (as : List Addr) (J : It) (p : Its) : Prop := ∀ (i : Nat) (as' : List Addr) (M' : Mem) (H' : Hp), Ext H H' as as' → MemR c.K c.mg H' as' M' → p.2 M' = true →
  (p.1.length = i → J.stop i H') ∧ ∀ d, p.1[i]? = some d → J.go i H' ∧ ∀ x H2, J.yld i H' x H2 → Ext H' H2 as' as' ∧ MemR c.K c.mg H2 as' M' ∧ Rep c.K H2 as' x d
abbrev tI (c : Ctx) (f : Cp Its) : TI := tG c (ItR c) f
theorem ItR.up {c : Ctx} {H H1 : Hp} {as as1 : List Addr} {J : It} {p : Its} (h : ItR c H as J p) (e : Ext H H1 as as1) : ItR c H1 as1 J p := fun i as' M' H' e' m hc => h i as' M' H' (e.trans e') m hc
def forL (tg : Tgt) (chk : Mem → Bool) (body : Sm) : List D → Sm
  | [] => fun ρ M => if chk M = true then some (.nx, ρ, M) else none
  | x :: xs => fun ρ M => if chk M = true then (match tg.f x ρ with
    | none => none
    | some ρ1 => match body ρ1 M with
      | some (.nx, ρ2, M2) => forL tg chk body xs ρ2 M2
      | some (.ct, ρ2, M2) => forL tg chk body xs ρ2 M2
      | some (.bk, ρ2, M2) => some (.nx, ρ2, M2)
      | some (r, ρ2, M2) => some (r, ρ2, M2)
      | none => none) else none
def sFor (it : Cp Its) (tg : Tgt) (body : Sm) : Sm := bindS it fun p => forL tg p.2 body p.1
theorem drop_get {α : Type} {l : List α} {i : Nat} {x : α} (h : l[i]? = some x) : l.drop i = x :: l.drop (i + 1) := by
  obtain ⟨hi, e⟩ := List.getElem?_eq_some_iff.mp h
  rw [List.drop_eq_getElem_cons hi, e]
section
variable {X : Cx} {E : XK} {tg iter : Expr} {body : List Stmt} {it : Cp Its} {t : Tgt} {g : Sm} {pos : Pos}
theorem ds_for (hp : PassesOwn (model X.prog X.w) X.A X.env X.xe) (hc : X.calm = true) (hi : PI X tg iter (tI (cX X E) it)) (hg : PG X tg (tTg (cX X E) t)) (hb : PSs X body (tS (cX X E) g))
    (hs : ∀ x, foldedSetIterable iter X.env x = pure x := by intro _; rfl) : PS X (.For tg iter body [] pos) (tS (cX X E) (sFor it t g)) := (ps_for hp hc hi hg hb hs).imp fun D' σ H ⟨as, M, ρ, r, ρ', M', hs, hm, hf, hp⟩ =>
  run_bindS hs hm hf hp fun as1 J H1 p M1 e1 s1 m1 r1 f1 p1 => by
    refine ⟨fun i m σ' H' => m = p.1.length - i ∧ i ≤ p.1.length ∧ ∃ as' ρ1 M2, Ext H1 H' as1 as' ∧ SlotR X.K H' as' σ' ρ1 ∧ MemR X.K X.mg H' as' M2 ∧ forL t p.2 g (p.1.drop i) ρ1 M2 = some (r, ρ', M'),
      ⟨_, rfl, Nat.zero_le _, as1, ρ, M1, Ext.refl, s1, m1, f1⟩, ?_⟩
    rintro i m σ2 H2 ⟨rfl, hi, as2, ρ1, M2, e2, s2, m2, f2⟩
    by_cases hlt : i < p.1.length
    · obtain ⟨d, hd⟩ : ∃ d, p.1[i]? = some d := ⟨_, List.getElem?_eq_getElem hlt⟩
      rw [drop_get hd] at f2
      unfold forL at f2
      split at f2
      · rename_i hck
        obtain ⟨_, hgo⟩ := r1 i as2 M2 H2 e2 m2 hck
        obtain ⟨go, hy⟩ := hgo d hd
        refine .inr ⟨go, fun σ' H' => ∃ as' ρ2 M3, Ext H1 H' as1 as' ∧ SlotR X.K H' as' σ' ρ2 ∧ MemR X.K X.mg H' as' M3 ∧ forL t p.2 g (p.1.drop (i + 1)) ρ2 M3 = some (r, ρ', M'), fun σ' H' ⟨as', ρ2, M3, q⟩ => ⟨p.1.length - (i + 1), by omega, rfl, by omega, as', ρ2, M3, q⟩, fun x H3 y => ?_⟩
        obtain ⟨e3, m3, r3⟩ := hy x H3 y
        split at f2
        · cases f2
        · rename_i ρ2 et
          refine ⟨as2, ρ1, d, ρ2, r3, s2.up e3, et, fun σ3 s3 _ => ?_⟩
          have e13 := e2.trans e3
          split at f2
          · rename_i ρ3 M3 eb
            exact ⟨as2, M2, ρ2, .nx, ρ3, M3, s3, m3, eb, fun as' σ' H' ex s m => ⟨as', ρ3, M3, e13.trans ex, s, m, f2⟩⟩
          · rename_i ρ3 M3 eb
            exact ⟨as2, M2, ρ2, .ct, ρ3, M3, s3, m3, eb, fun as' σ' H' ex s m => ⟨as', ρ3, M3, e13.trans ex, s, m, f2⟩⟩
          · rename_i ρ3 M3 eb
            cases f2
            exact ⟨as2, M2, ρ2, .bk, ρ', M', s3, m3, eb, fun as' σ' H' ex s m => p1 as' σ' H' (e13.trans ex) s m⟩
          · rename_i r4 ρ3 M3 n1 n2 n3 eb
            cases f2
            refine ⟨as2, M2, ρ2, r, ρ', M', s3, m3, eb, ?_⟩
            cases r with
            | nx => exact (n1 rfl).elim
            | ct => exact (n2 rfl).elim
            | bk => exact (n3 rfl).elim
            | rt d => exact fun as' v H' ex m rr => p1 as' v H' (e13.trans ex) m rr
            | ex x => exact fun as' cls dd H' ex m rr => p1 as' cls dd H' (e13.trans ex) m rr
          · cases f2
      · cases f2
    · have ei : i = p.1.length := by omega
      subst ei
      rw [List.drop_length] at f2
      unfold forL at f2
      split at f2
      · rename_i hck
        cases f2
        exact .inl ⟨(r1 _ as2 M' H2 e2 m2 hck).1 rfl, p1 as2 σ2 H2 e2 s2 m2⟩
      · cases f2
end
def whileF (c : Cp Bool) (body : Sm) : Nat → Sm
  | 0 => fun _ _ => none
  | n + 1 => bindS c fun b => if b = true then (fun ρ M => match body ρ M with
      | some (.nx, ρ2, M2) => whileF c body n ρ2 M2
      | some (.ct, ρ2, M2) => whileF c body n ρ2 M2
      | some (.bk, ρ2, M2) => some (.nx, ρ2, M2)
      | some (r, ρ2, M2) => some (r, ρ2, M2)
      | none => none) else nxS
def sWhile (n : Nat) (c : Cp Bool) (body : Sm) : Sm := whileF c body n
section
variable {X : Cx} {E : XK} {c : Expr} {body : List Stmt} {tc : Cp Bool} {g : Sm} {pos : Pos}
theorem ds_while (n : Nat) (hp : PassesOwn (model X.prog X.w) X.A X.env X.xe) (hc : PT X c (tT (cX X E) tc)) (hb : PSs X body (tS (cX X E) g)) : PS X (.While c body [] pos) (tS (cX X E) (sWhile n tc g)) := (ps_while hp hc hb).imp fun D' σ H ⟨as, M, ρ, r, ρ', M', hs, hm, hf, hp⟩ => by
  refine ⟨fun m σ' H' => ∃ as' ρ1 M1, Ext H H' as as' ∧ SlotR X.K H' as' σ' ρ1 ∧ MemR X.K X.mg H' as' M1 ∧ whileF tc g m ρ1 M1 = some (r, ρ', M'), ⟨n, as, ρ, M, Ext.refl, hs, hm, hf⟩, ?_⟩
  rintro m σ1 H1 ⟨as1, ρ1, M1, e1, s1, m1, f1⟩
  cases m with
  | zero => cases f1
  | succ m =>
    unfold whileF at f1
    refine run_bindS s1 m1 f1 (hp.up e1) fun as2 v H2 d M2 e2 s2 m2 r2 f2 p2 => ?_
    obtain rfl : v = d := r2
    by_cases hv : v = true
    · rw [if_pos hv] at f2 ⊢
      have e12 := e1.trans e2
      refine ⟨fun σ' H' => ∃ as' ρ1 M1, Ext H H' as as' ∧ SlotR X.K H' as' σ' ρ1 ∧ MemR X.K X.mg H' as' M1 ∧ whileF tc g m ρ1 M1 = some (r, ρ', M'), fun σ' H' q => ⟨m, Nat.lt_succ_self _, q⟩, ?_⟩
      split at f2
      · rename_i ρ3 M3 eb
        exact ⟨as2, M2, ρ1, .nx, ρ3, M3, s2, m2, eb, fun as' σ' H' ex s m => ⟨as', ρ3, M3, e12.trans ex, s, m, f2⟩⟩
      · rename_i ρ3 M3 eb
        exact ⟨as2, M2, ρ1, .ct, ρ3, M3, s2, m2, eb, fun as' σ' H' ex s m => ⟨as', ρ3, M3, e12.trans ex, s, m, f2⟩⟩
      · rename_i ρ3 M3 eb
        cases f2
        exact ⟨as2, M2, ρ1, .bk, ρ', M', s2, m2, eb, fun as' σ' H' ex s m => p2 as' σ' H' ex s m⟩
      · rename_i r4 ρ3 M3 n1 n2 n3 eb
        cases f2
        refine ⟨as2, M2, ρ1, r, ρ', M', s2, m2, eb, ?_⟩
        cases r with
        | nx => exact (n1 rfl).elim
        | ct => exact (n2 rfl).elim
        | bk => exact (n3 rfl).elim
        | rt d => exact p2
        | ex x => exact p2
      · cases f2
    · rw [if_neg hv] at f2 ⊢
      cases f2
      exact p2 as2 σ1 H2 Ext.refl s2 m2
end

/-! ### comprehensions -/
def wipeE (ρ : En) : List Nat → En
  | [] => ρ
  | v :: vs => (wipeE ρ vs).set v none
theorem SlotR.wipe {K : PySem.W.Frag} {H : Hp} {as : List Addr} {σ : L2.St} {ρ : En} (h : SlotR K H as σ ρ) : ∀ vs : List Nat, SlotR K H as (L2.wipe σ vs) (wipeE ρ vs)
  | [] => h
  | v :: vs => by
    have q := SlotR.wipe h vs
    refine ⟨by simp [L2.wipe, wipeE, q.len], fun i d hd => ?_⟩
    have hd' : ((wipeE ρ vs).set v none)[i]? = some (some d) := hd
    by_cases e : i = v
    · subst e
      by_cases hl : i < (wipeE ρ vs).length
      · rw [List.getElem?_set_self hl] at hd'
        cases hd'
      · rw [List.getElem?_eq_none (by simp; omega)] at hd'
        cases hd'
    · rw [List.getElem?_set_ne (fun z => e z.symm)] at hd'
      obtain ⟨w, e1, r1⟩ := q.at_ i d hd'
      exact ⟨w, by show ((L2.wipe σ vs).set v none)[i]? = _; rw [List.getElem?_set_ne (fun z => e z.symm)]; exact e1, r1⟩
/-- the items, one by one: l the new list -/
def lcL (tg : Tgt) (chk : Mem → Bool) (t : Cp Bool) (e : Cp D) (l : Nat) : List D → En → Mem → Option Mem
  | [], _, M => if chk M = true then some M else none
  | x :: xs, ρ, M => if chk M = true then (match tg.f x ρ with
    | none => none
    | some ρ1 => match t ρ1 M with
      | some (.ok true, M1) => (match e ρ1 M1 with
        | some (.ok d, M2) => (match M2[l]? with
          | some (.lst acc) => if acc.length < sizeLine then lcL tg chk t e l xs ρ (M2.set l (.lst (acc ++ [d]))) else none
          | _ => none)
        | _ => none)
      | some (.ok false, M1) => lcL tg chk t e l xs ρ M1
      | _ => none) else none
def eLc (it : Cp Its) (tg : Tgt) (t : Cp Bool) (e : Cp D) (vs : List Nat) : Cp D := bindC it fun p => fun ρ M => match lcL tg p.2 t e M.length p.1 (wipeE ρ vs) (M ++ [.lst []]) with
  | some M' => some (.ok (.ref M.length), M')
  | none => none
def tYesD : Cp Bool := pureC true
section
variable {X : Cx} {E : XK} {tg iter elt : Expr} {ifs : List Expr} {it : Cp Its} {t : Tgt} {tt : Cp Bool} {fe : Cp D} {pos : Pos}
theorem dts_nil : PTs X [] (tT (cX X E) tYesD) := pts_nil.imp fun σ H Q ⟨as, M, ρ, r, M', hs, hm, hf, hp⟩ => by
  cases hf
  exact hp.ok hm rfl
theorem dts_one {e : Expr} (h : PT X e (tT (cX X E) tt)) : PTs X [e] (tT (cX X E) tt) := pts_one h
theorem t_lc {c : Ctx} {c' : Ctx} (hK : c'.K = c.K) (hmg : c'.mg = c.mg) {vs : List Nat} (hsl : ∀ i ∈ t.sl, i ∈ vs) : ∀ σ H Q, tD c (eLc it t tt fe vs) σ H Q → tLc (tI c it) (tTg c' t) (tT c' tt) (tD c' fe) vs σ H Q := fun σ H Q ⟨as, M, ρ, r, M', hs, hm, hf, hp⟩ => by
  obtain ⟨K, mg, E'⟩ := c
  obtain ⟨K', mg', E''⟩ := c'
  cases hK
  cases hmg
  refine run_bind hs hm hf hp fun as1 J H1 p M1 e1 s1 m1 r1 f1 p1 => fun Da hD => ?_
  have f1' : (match lcL t p.2 tt fe M1.length p.1 (wipeE ρ vs) (M1 ++ [.lst []]) with
    | some M' => some (Except.ok (ε := Exc) (D.ref M1.length), M')
    | none => none) = some (r, M') := f1
  split at f1'
  · rename_i M5 e5
    cases f1'
    have hnl : (as1 ++ [Da])[M1.length]? = some Da := by rw [← m1.len]; exact at_end as1 Da
    refine ⟨fun i m H' => m = p.1.length - i ∧ i ≤ p.1.length ∧ ∃ as' M2, Ext (upd H1 Da (.lst [])) H' (as1 ++ [Da]) as' ∧ MemR K mg H' as' M2 ∧ lcL t p.2 tt fe M1.length (p.1.drop i) (wipeE ρ vs) M2 = some M',
      ⟨_, rfl, Nat.zero_le _, as1 ++ [Da], _, Ext.refl, m1.newM hD (u := .lst []) ⟨[], upd_same, .nil⟩, e5⟩, ?_⟩
    rintro i m H2 ⟨rfl, hi, as2, M2, e2, m2, f2⟩
    have e12 : Ext H1 H2 as1 as2 := (Ext.newM hD).trans e2
    by_cases hlt : i < p.1.length
    · obtain ⟨d, hd⟩ : ∃ d, p.1[i]? = some d := ⟨_, List.getElem?_eq_getElem hlt⟩
      rw [drop_get hd] at f2
      unfold lcL at f2
      split at f2
      · rename_i hck
        obtain ⟨_, hgo⟩ := r1 i as2 M2 H2 e12 m2 hck
        obtain ⟨go, hy⟩ := hgo d hd
        refine .inr ⟨go, fun H' => ∃ as' M3, Ext (upd H1 Da (.lst [])) H' (as1 ++ [Da]) as' ∧ MemR K mg H' as' M3 ∧ lcL t p.2 tt fe M1.length (p.1.drop (i + 1)) (wipeE ρ vs) M3 = some M', fun H' ⟨as', M3, q⟩ => ⟨p.1.length - (i + 1), by omega, rfl, by omega, as', M3, q⟩, fun x H3 y => ?_⟩
        obtain ⟨e3, m3, r3⟩ := hy x H3 y
        have e13 := e2.trans e3
        split at f2
        · cases f2
        · rename_i ρ2 et
          refine ⟨as2, wipeE ρ vs, d, ρ2, r3, (s1.wipe vs).up (e12.trans e3), et, fun σ3 s3 b3 => ⟨?_, ?_⟩⟩
          · rw [b3 vs hsl, wipe_wipe vs vs σ fun _ h => h]
          · split at f2
            · rename_i M3 eb
              refine ⟨as2, M2, ρ2, .ok true, M3, s3, m3, eb, fun as4 b H4 ex4 m4 hb => ?_⟩
              obtain rfl : b = true := hb
              rw [if_pos rfl]
              split at f2
              · rename_i dv M4 ev
                refine ⟨as4, M3, ρ2, .ok dv, M4, s3.up ex4, m4, ev, fun as5 v H5 ex5 m5 r5 => ?_⟩
                split at f2
                · rename_i acc el
                  split at f2
                  · rename_i hl
                    have e15 := e13.trans (ex4.trans ex5)
                    have ha : as5[M1.length]? = some Da := e15.get hnl
                    obtain ⟨accV, h1, h2⟩ := m5.ob _ _ _ ha el
                    refine ⟨accV, h1, by rw [h2.length]; exact hl, as5, _, e15.trans (m5.ext ha el), m5.set (u := .lst (acc ++ [dv])) ha el ⟨_, upd_same, (h2.append (.cons r5 .nil)).up (m5.ext ha el)⟩, f2⟩
                  · cases f2
                · cases f2
              · cases f2
            · rename_i M3 eb
              refine ⟨as2, M2, ρ2, .ok false, M3, s3, m3, eb, fun as4 b H4 ex4 m4 hb => ?_⟩
              obtain rfl : b = false := hb
              rw [if_neg Bool.false_ne_true]
              exact ⟨as4, M3, e13.trans ex4, m4, f2⟩
            · cases f2
      · cases f2
    · have ei : i = p.1.length := by omega
      subst ei
      rw [List.drop_length] at f2
      unfold lcL at f2
      split at f2
      · rename_i hck
        cases f2
        exact .inl ⟨(r1 _ as2 M' H2 e12 m2 hck).1 rfl, p1 as2 _ H2 e12 m2 (.ref (e2.get hnl))⟩
      · cases f2
  · cases f1'
theorem d_lc {scope : Scope} {own : List (Str × Nat)} (hc : X.calm = true) (hN : X.N.Nodup) (hi : PI X tg iter (tI (cX X E) it)) (ok : blkC X.N X.env.scope scope own = true)
    (hg : ∀ (s : Shared) (H : Hp) (C : Addr) (cl : List (Str × Addr)) (fp : List Addr), PG (X.blk s H scope (compEnvC scope cl C X.env) fp) tg (tTg (cX X E0) t)) (ht : ∀ (s : Shared) (H : Hp) (C : Addr) (cl : List (Str × Addr)) (fp : List Addr), PTs (X.blk s H scope (compEnvC scope cl C X.env) fp) ifs (tT (cX X E0) tt))
    (he : ∀ (s : Shared) (H : Hp) (C : Addr) (cl : List (Str × Addr)) (fp : List Addr), PE (X.blk s H scope (compEnvC scope cl C X.env) fp) elt (tD (cX X E0) fe)) (hsl : ∀ i ∈ t.sl, i ∈ own.map (·.2) := by decide) (hs : ∀ x, foldedSetIterable iter X.env x = pure x := by intro _; rfl) :
    PE X (.ListComp elt [⟨tg, iter, ifs, 0⟩] scope pos) (tD (cX X E) (eLc it t tt fe (own.map (·.2)))) := (pe_lc hc hN hi (blkOk_by ok) hg ht he hs).imp (t_lc (c := cX X E) (c' := cX X E0) rfl rfl hsl)
theorem ds_setLc (i : Nat) {y : Str} {py spos : Pos} {scope : Scope} {own : List (Str × Nat)} (hc : X.calm = true) (hN : X.N.Nodup) (hy : X.N[i]? = some y) (hyl : X.env.scope.names.lookup y = some .local)
    (hsw : swapsWith (.ListComp elt [⟨tg, iter, ifs, 0⟩] scope pos) (some (.Name y py)) spos.line X.env = pure true) (hi : PI X tg iter (tI (cX X E) it)) (ok : blkC X.N X.env.scope scope own = true)
    (hg : ∀ (s : Shared) (H : Hp) (C : Addr) (cl : List (Str × Addr)) (fp : List Addr), PG (X.blk s H scope (compEnvC scope cl C X.env) fp) tg (tTg (cX X E0) t)) (ht : ∀ (s : Shared) (H : Hp) (C : Addr) (cl : List (Str × Addr)) (fp : List Addr), PTs (X.blk s H scope (compEnvC scope cl C X.env) fp) ifs (tT (cX X E0) tt))
    (he : ∀ (s : Shared) (H : Hp) (C : Addr) (cl : List (Str × Addr)) (fp : List Addr), PE (X.blk s H scope (compEnvC scope cl C X.env) fp) elt (tD (cX X E0) fe)) (hsl : ∀ i ∈ t.sl, i ∈ own.map (·.2) := by decide) (hs : ∀ x, foldedSetIterable iter X.env x = pure x := by intro _; rfl) :
    PS X (.Assign [.Name y py] (.ListComp elt [⟨tg, iter, ifs, 0⟩] scope pos) spos) (tS (cX X E) (sAsg (eLc it t tt fe (own.map (·.2))) (gN i))) := (ps_setLc hc hN hy hyl hsw hi (blkOk_by ok) hg ht he hs).imp fun D' σ H ⟨as, M, ρ, r, ρ', M', hs, hm, hf, hp⟩ => by
  refine t_lc (c := cX X E) (c' := cX X E0) rfl rfl hsl σ H _ (run_bindS hs hm hf hp fun as1 v H1 d M1 e1 s1 m1 r1 f1 p1 => ?_)
  cases f1
  exact p1 as1 _ H1 Ext.refl (s1.set r1) m1
end

/-! ### defs -/
abbrev Fn := List D → Mem → Option (Except Exc D × Mem)
def fnOf (N n : Nat) (body : Sm) : Fn := fun ds M => if ds.length = n then (match body (ds.map some ++ List.replicate (N - n) none) M with
  | some (.rt d, _, M') => some (.ok d, M')
  | some (.nx, _, M') => some (.ok .non, M')
  | some (.ex x, _, M') => some (.error x, M')
  | _ => none) else none
/-- .. that raises nothing -/
def fn0 (F : Fn) : Fn := fun ds M => match F ds M with
  | some (.ok d, M') => some (.ok d, M')
  | _ => none
def spF (K : PySem.W.Frag) (mg : Str → Option Value) (n : Nat) (F : Fn) : Sp := fun vs H Q E => vs.length = n ∧ ∃ as M ds r M', MemR K mg H as M ∧ RepL K H as vs ds ∧ F ds M = some (r, M') ∧ Post ⟨K, mg, E⟩ (rD ⟨K, mg, E⟩) H as M' r Q
theorem SlotR.start {K : PySem.W.Frag} {H : Hp} {as : List Addr} {N : List Str} {vs : List V} {ds : List D} {k n : Nat} (h : RepL K H as vs ds) (hk : N.length = k) (hn : ds.length = n) : SlotR K H as (L2.start N vs) (ds.map some ++ List.replicate (k - n) none) := by
  have hl := h.length
  refine ⟨by simp [L2.start, hl, hk, hn], fun i d hd => ?_⟩
  by_cases hi : i < ds.length
  · rw [List.getElem?_append_left (by simpa using hi), List.getElem?_map] at hd
    cases e : ds[i]? with
    | none => rw [e] at hd; cases hd
    | some d' =>
      rw [e] at hd
      cases hd
      obtain ⟨v, e1, r1⟩ := h.get e
      refine ⟨v, ?_, r1⟩
      unfold L2.start
      rw [List.getElem?_append_left (by simpa [hl] using hi), List.getElem?_map, e1]
      rfl
  · rw [List.getElem?_append_right (by simp; omega)] at hd
    have := List.mem_of_getElem? hd
    simp at this
section
variable {P : Program} {w : World} {K : PySem.W.Frag} {mg : Str → Option Value} {base : Heap}
theorem Post.toS {c : Ctx} {H : Hp} {as : List Addr} {M' : Mem} {r : Except Exc D} {ρ' : En} {Q : VK} {rr : Rr} (h : Post c (rD c) H as M' r Q)
    (e : (match (some (rr, ρ', M') : Option (Rr × En × Mem)) with
      | some (.rt d, _, M') => some (.ok d, M')
      | some (.nx, _, M') => some (.ok .non, M')
      | some (.ex x, _, M') => some (.error x, M')
      | _ => none) = some (r, M')) : PostS c H as rr ρ' M' { nx := fun _ H' => Q .non H', rt := Q } := by
  cases rr with
  | nx => cases e; exact fun as' σ' H' ex s m => h as' .non H' ex m .non
  | rt d => cases e; exact h
  | ex x => cases e; exact h
  | bk => cases e
  | ct => cases e
/-- a def that may raise -/
theorem fn_ok {x qual : Str} {st : Stmt} {f : Addr} {fd : FuncData} {N ps : List Str} {k n m : Nat} {body : Sm} (F : Fun K x qual st f fd) (S : FnScope N ps (defScope st)) (hn : ps.length = n) (hN : N.length = m)
    (hbody : ∀ (cdv : Value) (A : Around) (outer : List Env) (s : Shared) (H : Hp) (E : XK), Room k (A.deeper (envOfC qual (defScope st) s.heap.objs.size f cdv)) →
      PSs (cxOf (L2.CX P w) P w K mg base N qual (defScope st) f cdv A outer s H E) (defBody st) (tS ⟨K, mg, E⟩ body)) : FnOk P w K mg base (L2.CX P w) (k + 1) f fd ps (spF K mg n (fnOf m n body)) := by
  refine F.okX S (fun vs H Q E h => by rw [h.1, hn]) fun cdv A outer s H vs Q E hr h => ⟨_, hbody cdv A outer s H E hr, ?_⟩
  obtain ⟨hl, as, M, ds, r, M', hm, hr', hf, hp⟩ := h
  unfold fnOf at hf
  split at hf
  · rename_i hd
    cases e : body (ds.map some ++ List.replicate (m - n) none) M with
    | none => rw [e] at hf; cases hf
    | some q =>
      obtain ⟨rr, ρ', M2⟩ := q
      rw [e] at hf
      have hM : M2 = M' := by cases rr <;> cases hf <;> rfl
      subst hM
      exact ⟨as, M, _, rr, ρ', M2, SlotR.start hr' hN hd, hm, e, hp.toS hf⟩
  · cases hf
/-- a def that raises nothing -/
theorem fn_ok0 {x qual : Str} {st : Stmt} {f : Addr} {fd : FuncData} {N ps : List Str} {k n m : Nat} {body : Sm} (F : Fun K x qual st f fd) (S : FnScope N ps (defScope st)) (hn : ps.length = n) (hN : N.length = m)
    (hbody : ∀ (cdv : Value) (A : Around) (outer : List Env) (s : Shared) (H : Hp) (E : XK), Room k (A.deeper (envOfC qual (defScope st) s.heap.objs.size f cdv)) →
      PSs (cxOf CX0 P w K mg base N qual (defScope st) f cdv A outer s H E).nox (defBody st) (tS ⟨K, mg, E0⟩ body)) : FnOk P w K mg base CX0 (k + 1) f fd ps (spF K mg n (fn0 (fnOf m n body))) := by
  refine F.ok S (fun vs H Q E h => by rw [h.1, hn]) fun cdv A outer s H vs Q E hr h => ⟨_, hbody cdv A outer s H E hr, ?_⟩
  obtain ⟨hl, as, M, ds, r, M', hm, hr', hf, hp⟩ := h
  unfold fn0 at hf
  split at hf
  · rename_i d M3 e0
    cases hf
    unfold fnOf at e0
    split at e0
    · rename_i hd
      cases e : body (ds.map some ++ List.replicate (m - n) none) M with
      | none => rw [e] at e0; cases e0
      | some q =>
        obtain ⟨rr, ρ', M2⟩ := q
        rw [e] at e0
        have hM : M2 = M' := by cases rr <;> cases e0 <;> rfl
        subst hM
        refine ⟨as, M, _, rr, ρ', M2, SlotR.start hr' hN hd, hm, e, Post.toS (r := .ok d) (c := ⟨K, mg, E0⟩) hp e0⟩
    · cases e0
  · cases hf
end
/-- what callers know of a def -/
structure DefOk (P : Program) (w : World) (K : PySem.W.Frag) (mg : Str → Option Value) (base : Heap) (CX : CXT) (k : Nat) (x : Str) (n : Nat) (F : Fn) : Prop where
  ex : ∃ f fd ps, FnOk P w K mg base CX k f fd ps (spF K mg n F) ∧ mg x = some (.ref f) ∧ PySem.W.keepIn K (.ref f) = true ∧ L2.Binds K fd ps []
  len : ∀ ds M q, F ds M = some q → ds.length = n
theorem fnOf_len {N n : Nat} {body : Sm} : ∀ ds M q, fnOf N n body ds M = some q → ds.length = n := fun ds M q h => by
  unfold fnOf at h
  split at h
  · assumption
  · cases h
theorem fn0_len {F : Fn} {n : Nat} (hF : ∀ ds M q, F ds M = some q → ds.length = n) : ∀ ds M q, fn0 F ds M = some q → ds.length = n := fun ds M q h => by
  unfold fn0 at h
  split at h
  · rename_i e
    exact hF _ _ _ e
  · cases h
section
variable {X : Cx} {E : XK} {CX : CXT} {k n : Nat} {x : Str} {F : Fn} {p pos : Pos} {e : Expr} {es : List Expr} {ft : Cp (List D)}
theorem d_call (h : DefOk X.prog X.w X.K X.mg X.base CX k x n F) (hx : Passes CX X E) (hr : Room k X.A) (ha : PA X (e :: es) (tA (cX X E) ft)) (hg : Gl X x := by rfl) (hdb : (x == ("__debug__" : Str)) = false := by decide)
    (he : starEach (e :: es) X.env = (false, eval e X.env) :: starEach es X.env := by rfl) (hpl : (backTo pos (starEach es X.env)).any (·.1) = false := by rfl) : PE X (.Call (.Name x p) (e :: es) [] pos) (tD (cX X E) (eCall F ft)) := by
  obtain ⟨f, fd, ps, FO, hm, hk, hb⟩ := h.ex
  refine (pe_call FO hr hg hm hk hb .nil hx ha hdb he hpl).imp fun σ H Q ⟨as, M, ρ, r, M', hs, hm, hf, hp⟩ => ?_
  unfold eCall bindC at hf
  split at hf
  · rename_i ds M1 e1
    refine ⟨as, M, ρ, .ok ds, M1, hs, hm, e1, fun as' vs H' ex m rr => ?_⟩
    show spF X.K X.mg n F (vs ++ []) H' Q E
    rw [List.append_nil]
    exact ⟨by rw [RepL.length rr]; exact h.len _ _ _ hf, as', M1, ds, r, M', m, rr, hf, hp.up ex⟩
  · rename_i x M1 e1
    cases hf
    exact ⟨as, M, ρ, .error x, M', hs, hm, e1, hp⟩
  · cases hf
end
end DL

namespace DL
open PySem PySem.Spec PyProof.Rows L2

/-! ### values as data: for ==, in, repr, sorted -/
def toP (M : Mem) : Nat → D → Option PyData
  | 0, _ => none
  | _ + 1, .non => some .none
  | _ + 1, .bl b => some (.bool b)
  | _ + 1, .int i => some (.int i)
  | _ + 1, .str x => some (.str x)
  | _ + 1, .ty _ => none
  | n + 1, .tup xs => (xs.mapM (toP M n)).map .tuple
  | n + 1, .fls xs => (xs.mapM (toP M n)).map .list
  | n + 1, .ref l => match M[l]? with
    | some (.lst xs) => (xs.mapM (toP M n)).map .list
    | _ => none
abbrev toPy (M : Mem) (d : D) : Option PyData := toP M 70 d
theorem mapM_cons_some {α β : Type} {f : α → Option β} {x : α} {xs : List α} {ys : List β} (h : (x :: xs).mapM f = some ys) : ∃ y zs, f x = some y ∧ xs.mapM f = some zs ∧ ys = y :: zs := by
  rw [List.mapM_cons] at h
  cases e1 : f x with
  | none => rw [e1] at h; cases h
  | some y =>
    rw [e1] at h
    cases e2 : xs.mapM f with
    | none => rw [e2] at h; cases h
    | some zs =>
      rw [e2] at h
      cases h
      exact ⟨y, zs, rfl, rfl, rfl⟩
section
variable {c : Ctx} {H : Hp} {as : List Addr} {M : Mem}
theorem dp_of (m : MemR c.K c.mg H as M) : ∀ (n : Nat) (d : D) (v : V) (p : PyData), Rep c.K H as v d → toP M n d = some p → Dp c.K H v p := by
  intro n
  induction n with
  | zero => intro d v p _ h; cases h
  | succ n ih =>
    have all : ∀ (ds : List D) (vs : List V) (ps : List PyData), RepL c.K H as vs ds → ds.mapM (toP M n) = some ps → DpAll c.K H vs ps := by
      intro ds
      induction ds with
      | nil =>
        intro vs ps r h
        cases r
        rw [List.mapM_nil] at h
        cases h
        exact .nil
      | cons d ds ihd =>
        intro vs ps r h
        cases r with
        | cons r1 r2 =>
          obtain ⟨y, zs, e1, e2, rfl⟩ := mapM_cons_some h
          exact .cons (ih d _ _ r1 e1) (ihd _ _ r2 e2)
    intro d v p r h
    cases r with
    | non => cases h; exact .non
    | bl b => cases h; exact .bl b
    | int i => cases h; exact .int i
    | str x => cases h; exact .str x
    | ty n => cases h
    | @tup a xs ds h1 h2 =>
      have h' : (ds.mapM (toP M n)).map PyData.tuple = some p := h
      cases e : ds.mapM (toP M n) with
      | none => rw [e] at h'; cases h'
      | some ps =>
        rw [e] at h'
        cases h'
        exact .tup h1 (all _ _ _ h2 e)
    | @fls a xs ds h1 h2 =>
      have h' : (ds.mapM (toP M n)).map PyData.list = some p := h
      cases e : ds.mapM (toP M n) with
      | none => rw [e] at h'; cases h'
      | some ps =>
        rw [e] at h'
        cases h'
        exact .lst h1.sq (all _ _ _ h2 e)
    | @ref a l h1 =>
      have h' : (match M[l]? with
        | some (.lst xs) => (xs.mapM (toP M n)).map PyData.list
        | _ => none) = some p := h
      split at h'
      · rename_i xs e1
        obtain ⟨vs, e2, r2⟩ := m.ob _ _ _ h1 e1
        cases e : xs.mapM (toP M n) with
        | none => rw [e] at h'; cases h'
        | some ps =>
          rw [e] at h'
          cases h'
          exact .lst (SqL.of e2) (all _ _ _ r2 e)
      · cases h'
end
def opEq (x y : D) (M : Mem) : Option (D × Mem) := match toPy M x, toPy M y with
  | some a, some b => if SeqAt.shaped a = true ∧ SeqAt.shaped b = true then some (.bl (PyData.eqv a b), M) else none
  | _, _ => none
def opNe (x y : D) (M : Mem) : Option (D × Mem) := match toPy M x, toPy M y with
  | some a, some b => if SeqAt.shaped a = true ∧ SeqAt.shaped b = true then some (.bl (!PyData.eqv a b), M) else none
  | _, _ => none
theorem sat_eq {c : Ctx} : SatR2 c (rEqD c.K) opEq := fun H as M x y d e z M' Q m rx ry h p => by
  unfold opEq at h
  split at h
  · rename_i a b ea eb
    split at h
    · rename_i hs
      cases h
      exact ⟨a, b, dp_of m _ _ _ _ rx ea, dp_of m _ _ _ _ ry eb, hs.1, hs.2, p.ok m (.bl _)⟩
    · cases h
  · cases h
theorem sat_ne {c : Ctx} : SatR2 c (rNeD c.K) opNe := fun H as M x y d e z M' Q m rx ry h p => by
  unfold opNe at h
  split at h
  · rename_i a b ea eb
    split at h
    · rename_i hs
      cases h
      exact ⟨a, b, dp_of m _ _ _ _ rx ea, dp_of m _ _ _ _ ry eb, hs.1, hs.2, p.ok m (.bl _)⟩
    · cases h
  · cases h

/-! ### numbers, texts, lists by operators -/
theorem SatR2.or1 {c : Ctx} {r r' : R2} {g : D → D → Mem → Option (D × Mem)} (h : SatR2 c r g) : SatR2 c (fun x y H Q => r x y H Q ∨ r' x y H Q) g := fun H as M x y d e z M' Q m rx ry hz p => .inl (h H as M x y d e z M' Q m rx ry hz p)
def opAdd : D → D → Mem → Option (D × Mem)
  | .int i, .int j, M => some (.int (i + j), M)
  | .str x, .str y, M => if x.length + y.length ≤ sizeLine then some (.str (x ++ y), M) else none
  | .tup xs, .tup ys, M => if xs.length + ys.length ≤ sizeLine then some (.tup (xs ++ ys), M) else none
  | .ref l, .ref k, M => match M[l]?, M[k]? with
    | some (.lst xs), some (.lst ys) => newL (xs ++ ys) M
    | _, _ => none
  | _, _, _ => none
abbrev rAddD (K : PySem.W.Frag) : R2 := fun x y H Q => rI0 (fun i j => .int (i + j)) x y H Q ∨ (fun x y H Q => (∃ i j, x = .str i ∧ y = .str j ∧ i.length + j.length ≤ sizeLine ∧ Q (.str (i ++ j)) H) ∨ (fun x y H Q => rCatA K x y H Q ∨ rCat x y H Q) x y H Q) x y H Q
theorem op_addD {X : Cx} : OpR X (binaryOp .Add) (rAddD X.K) := op_add.or (op_add_str.or (op_catA.or op_cat))
theorem sat_add {c : Ctx} : SatR2 c (rAddD c.K) opAdd := fun H as M x y d e z M' Q m rx ry h p => by
  cases rx with
  | int i =>
    cases ry with
    | int j => cases h; exact .inl ⟨i, j, rfl, rfl, p.ok m (.int _)⟩
    | _ => cases h
  | str s =>
    cases ry with
    | str t =>
      have h' : (if s.length + t.length ≤ sizeLine then some (D.str (s ++ t), M) else none) = some (z, M') := h
      split at h'
      · rename_i hl
        cases h'
        exact .inr (.inl ⟨s, t, rfl, rfl, hl, p.ok m (.str _)⟩)
      · cases h'
    | _ => cases h
  | @tup a vs ds h1 h2 =>
    cases ry with
    | @tup b ws es h3 h4 =>
      have h' : (if ds.length + es.length ≤ sizeLine then some (D.tup (ds ++ es), M) else none) = some (z, M') := h
      split at h'
      · rename_i hl
        cases h'
        refine .inr (.inr (.inl ⟨a, b, vs, ws, rfl, rfl, h1, h3, by rw [h2.length, h4.length]; exact hl, fun hv => ?_, fun _ hw => ?_, fun _ _ => p.newT m (h2.append h4)⟩))
        · subst hv
          cases h2
          exact p.ok m (.tup h3 h4)
        · subst hw
          cases h4
          rw [List.append_nil] at p
          exact p.ok m (.tup h1 h2)
      · cases h'
    | _ => cases h
  | @ref a l h1 =>
    cases ry with
    | @ref b k h2 =>
      have h' : (match M[l]?, M[k]? with
        | some (.lst xs), some (.lst ys) => newL (xs ++ ys) M
        | _, _ => none) = some (z, M') := h
      split at h'
      · rename_i xs ys e1 e2
        obtain ⟨vs, e3, r3⟩ := m.ob _ _ _ h1 e1
        obtain ⟨ws, e4, r4⟩ := m.ob _ _ _ h2 e2
        obtain ⟨hl, q⟩ := p.newL h' m (r3.append r4)
        exact .inr (.inr (.inr ⟨a, b, vs, ws, rfl, rfl, e3, e4, by rw [List.length_append] at hl; exact hl, q⟩))
      · cases h'
    | _ => cases h
  | _ => cases h
def opSub : D → D → Mem → Option (D × Mem)
  | .int i, .int j, M => some (.int (i - j), M)
  | _, _, _ => none
theorem sat_sub {c : Ctx} : SatR2 c (rI0 fun i j => .int (i - j)) opSub := fun H as M x y d e z M' Q m rx ry h p => by
  cases rx with
  | int i =>
    cases ry with
    | int j => cases h; exact ⟨i, j, rfl, rfl, p.ok m (.int _)⟩
    | _ => cases h
  | _ => cases h
def CMulD (i j : Int) : Prop := CMul i j ∨ CMulW i j
instance (i j : Int) : Decidable (CMulD i j) := by unfold CMulD CMul CMulW; infer_instance
theorem op_mulD {X : Cx} : OpR X (binaryOp .Mult) (rI CMulD fun i j => .int (i * j)) := fun pins s σ H x y v u Q I rx ry h => by
  obtain ⟨i, j, rfl, rfl, hc, q⟩ := h
  rcases hc with hc | hc
  · exact op_mul pins s σ H _ _ v u Q I rx ry ⟨i, j, rfl, rfl, hc, q⟩
  · exact op_mulW pins s σ H _ _ v u Q I rx ry ⟨i, j, rfl, rfl, hc, q⟩
/-- a text times a number -/
def strMul (x : Str) (n : Int) : Str := Txt.mul x n
def CSM (x : Str) (n : Int) : Prop := -(2 ^ 63) ≤ n ∧ n < 2 ^ 63 ∧ x.length * n.toNat ≤ sizeLine
instance (x : Str) (n : Int) : Decidable (CSM x n) := by unfold CSM; infer_instance
theorem op_mulS {X : Cx} : OpR X (binaryOp .Mult) (fun x y H Q => ∃ s n, x = .str s ∧ y = .int n ∧ CSM s n ∧ Q (.str (strMul s n)) H) := fun pins s σ H x y v u Q I rx ry h => by
  obtain ⟨x, n, rfl, rfl, ⟨h1, h2, h3⟩, q⟩ := h
  obtain ⟨t, rfl⟩ := rx
  obtain ⟨t', rfl⟩ := ry
  refine SB.mul ⟨?_, fun hn _ => ?_, fun _ _ => ?_⟩ fun t'' k => ⟨.str _, H, I.tok k, ⟨t'', rfl⟩, q⟩
  · rw [decide_eq_false (by omega), decide_eq_false (by omega)]
    rfl
  · have hs := sizeLine_eq
    have e : (n.toNat : Int) = n := Int.toNat_of_nonneg (by omega)
    have h4 : (x.length : Int) * n ≤ 16777216 := by
      have e2 : (x.length : Int) * n = ((x.length * n.toNat : Nat) : Int) := by rw [Int.natCast_mul, e]
      rw [e2]
      rw [hs] at h3
      omega
    intro hgt
    have h5 : (x.length : Int) * n ≤ 2 ^ 63 - 1 := by omega
    have h6 : (x.length : Int) ≤ (2 ^ 63 - 1) / n := (Int.le_ediv_iff_mul_le (by omega)).mpr h5
    omega
  · exact decide_eq_false (Nat.not_lt.mpr h3)
abbrev rMulD : R2 := fun x y H Q => rI CMulD (fun i j => .int (i * j)) x y H Q ∨ (fun x y H Q => (∃ s n, x = .str s ∧ y = .int n ∧ CSM s n ∧ Q (.str (strMul s n)) H) ∨ rRep x y H Q) x y H Q
theorem op_mulA {X : Cx} : OpR X (binaryOp .Mult) rMulD := op_mulD.or (op_mulS.or op_rep)
def opMul : D → D → Mem → Option (D × Mem)
  | .int i, .int j, M => if CMulD i j then some (.int (i * j), M) else none
  | .str x, .int n, M => if CSM x n then some (.str (strMul x n), M) else none
  | .ref l, .int k, M => match M[l]? with
    | some (.lst xs) => if -(2 ^ 63) ≤ k ∧ k < 2 ^ 63 ∧ xs.length * k.toNat ≤ sizeLine then newL (List.replicate k.toNat xs).flatten M else none
    | _ => none
  | _, _, _ => none
theorem RepL.rep {K : PySem.W.Frag} {H : Hp} {as : List Addr} {vs : List V} {ds : List D} (h : RepL K H as vs ds) : ∀ k : Nat, RepL K H as (List.replicate k vs).flatten (List.replicate k ds).flatten
  | 0 => .nil
  | k + 1 => by
    rw [List.replicate_succ, List.replicate_succ, List.flatten_cons, List.flatten_cons]
    exact h.append (RepL.rep h k)
theorem sat_mul {c : Ctx} : SatR2 c rMulD opMul := fun H as M x y d e z M' Q m rx ry h p => by
  cases rx with
  | int i =>
    cases ry with
    | int j =>
      have h' : (if CMulD i j then some (D.int (i * j), M) else none) = some (z, M') := h
      split at h'
      · rename_i hc
        cases h'
        exact .inl ⟨i, j, rfl, rfl, hc, p.ok m (.int _)⟩
      · cases h'
    | _ => cases h
  | str s =>
    cases ry with
    | int j =>
      have h' : (if CSM s j then some (D.str (strMul s j), M) else none) = some (z, M') := h
      split at h'
      · rename_i hc
        cases h'
        exact .inr (.inl ⟨s, j, rfl, rfl, hc, p.ok m (.str _)⟩)
      · cases h'
    | _ => cases h
  | @ref a l h1 =>
    cases ry with
    | int k =>
      have h' : (match M[l]? with
        | some (.lst xs) => if -(2 ^ 63) ≤ k ∧ k < 2 ^ 63 ∧ xs.length * k.toNat ≤ sizeLine then newL (List.replicate k.toNat xs).flatten M else none
        | _ => none) = some (z, M') := h
      split at h'
      · rename_i xs e1
        split at h'
        · rename_i hc
          obtain ⟨vs, e3, r3⟩ := m.ob _ _ _ h1 e1
          obtain ⟨hl, q⟩ := p.newL h' m (r3.rep k.toNat)
          exact .inr (.inr ⟨a, k, vs, rfl, rfl, e3, hc.1, hc.2.1, by rw [r3.length]; exact hc.2.2, q⟩)
        · cases h'
      · cases h'
    | _ => cases h
  | _ => cases h
theorem sat_I {c : Ctx} {C : Int → Int → Prop} [dc : ∀ i j, Decidable (C i j)] {f : Int → Int → Int} {g : D → D → Mem → Option (D × Mem)} (hg : ∀ d e M z, g d e M = some z → ∃ i j, d = .int i ∧ e = .int j ∧ C i j ∧ z = (.int (f i j), M)) : SatR2 c (rI C fun i j => .int (f i j)) g := fun H as M x y d e z M' Q m rx ry h p => by
  obtain ⟨i, j, rfl, rfl, hc, hz⟩ := hg _ _ _ _ h
  cases hz
  cases rx
  cases ry
  exact ⟨i, j, rfl, rfl, hc, p.ok m (.int _)⟩
/-- // : by what is not negative as ediv -/
def CDivD (j : Int) : Prop := 0 < j ∧ (j < 1073741824 ∨ j.natAbs.log2 < 9000)
instance (j : Int) : Decidable (CDivD j) := by unfold CDivD; infer_instance
theorem op_fdivD {X : Cx} : OpR X (binaryOp .FloorDiv) (rI (fun _ j => CDivD j) fun i j => .int (i / j)) := fun pins s σ H x y v u Q I rx ry h => by
  obtain ⟨i, j, rfl, rfl, ⟨h0, hc⟩, q⟩ := h
  rcases hc with hc | hc
  · exact op_fdiv pins s σ H _ _ v u Q I rx ry ⟨i, j, rfl, rfl, ⟨h0, hc⟩, q⟩
  · exact op_fdivW pins s σ H _ _ v u Q I rx ry ⟨i, j, rfl, rfl, ⟨h0, hc⟩, q⟩
def opFdiv : D → D → Mem → Option (D × Mem)
  | .int i, .int j, M => if CDivD j then some (.int (i / j), M) else none
  | _, _, _ => none
def opMod : D → D → Mem → Option (D × Mem)
  | .int i, .int j, M => if 0 < j then some (.int (i % j), M) else none
  | _, _, _ => none
instance (i j : Int) : Decidable (CPow i j) := by unfold CPow; infer_instance
def opPow : D → D → Mem → Option (D × Mem)
  | .int i, .int j, M => if CPow i j then some (.int (i ^ j.toNat), M) else none
  | _, _, _ => none
def opShl : D → D → Mem → Option (D × Mem)
  | .int i, .int j, M => if CPow i j then some (.int (i * 2 ^ j.toNat), M) else none
  | _, _, _ => none
def opShr : D → D → Mem → Option (D × Mem)
  | .int i, .int j, M => if 0 ≤ j then some (.int (i / 2 ^ j.toNat), M) else none
  | _, _, _ => none
def opAnd : D → D → Mem → Option (D × Mem)
  | .int i, .int j, M => some (.int (Builtin.bitAnd i j), M)
  | _, _, _ => none
def opOr : D → D → Mem → Option (D × Mem)
  | .int i, .int j, M => some (.int (Builtin.bitOr i j), M)
  | _, _, _ => none
theorem sat_fdiv {c : Ctx} : SatR2 c (rI (fun _ j => CDivD j) fun i j => .int (i / j)) opFdiv := sat_I (dc := fun i j => inferInstance) fun d e M z h => by
  unfold opFdiv at h
  split at h
  · split at h
    · cases h; exact ⟨_, _, rfl, rfl, by assumption, rfl⟩
    · cases h
  · cases h
theorem sat_mod {c : Ctx} : SatR2 c (rI (fun _ j => 0 < j) fun i j => .int (i % j)) opMod := sat_I (dc := fun i j => inferInstance) fun d e M z h => by
  unfold opMod at h
  split at h
  · split at h
    · cases h; exact ⟨_, _, rfl, rfl, by assumption, rfl⟩
    · cases h
  · cases h
theorem sat_pow {c : Ctx} : SatR2 c (rI CPow fun i j => .int (i ^ j.toNat)) opPow := sat_I fun d e M z h => by
  unfold opPow at h
  split at h
  · split at h
    · cases h; exact ⟨_, _, rfl, rfl, by assumption, rfl⟩
    · cases h
  · cases h
theorem sat_shl {c : Ctx} : SatR2 c (rI CPow fun i j => .int (i * 2 ^ j.toNat)) opShl := sat_I fun d e M z h => by
  unfold opShl at h
  split at h
  · split at h
    · cases h; exact ⟨_, _, rfl, rfl, by assumption, rfl⟩
    · cases h
  · cases h
theorem sat_shr {c : Ctx} : SatR2 c (rI (fun _ j => 0 ≤ j) fun i j => .int (i / 2 ^ j.toNat)) opShr := sat_I (dc := fun i j => inferInstance) fun d e M z h => by
  unfold opShr at h
  split at h
  · split at h
    · cases h; exact ⟨_, _, rfl, rfl, by assumption, rfl⟩
    · cases h
  · cases h
theorem sat_I0 {c : Ctx} {f : Int → Int → D} {fv : Int → Int → V} (hr : ∀ K H as i j, Rep K H as (fv i j) (f i j)) {g : D → D → Mem → Option (D × Mem)} (hg : ∀ d e M z, g d e M = some z → ∃ i j, d = .int i ∧ e = .int j ∧ z = (f i j, M)) : SatR2 c (rI0 fv) g := fun H as M x y d e z M' Q m rx ry h p => by
  obtain ⟨i, j, rfl, rfl, hz⟩ := hg _ _ _ _ h
  cases hz
  cases rx
  cases ry
  exact ⟨i, j, rfl, rfl, p.ok m (hr _ _ _ _ _)⟩
theorem sat_and {c : Ctx} : SatR2 c (rI0 fun i j => .int (Builtin.bitAnd i j)) opAnd := sat_I0 (f := fun i j => .int (Builtin.bitAnd i j)) (fun _ _ _ _ _ => .int _) fun d e M z h => by
  unfold opAnd at h
  split at h
  · cases h; exact ⟨_, _, rfl, rfl, rfl⟩
  · cases h
theorem sat_or {c : Ctx} : SatR2 c (rI0 fun i j => .int (Builtin.bitOr i j)) opOr := sat_I0 (f := fun i j => .int (Builtin.bitOr i j)) (fun _ _ _ _ _ => .int _) fun d e M z h => by
  unfold opOr at h
  split at h
  · cases h; exact ⟨_, _, rfl, rfl, rfl⟩
  · cases h
def opNeg : D → Mem → Option (D × Mem)
  | .int i, M => some (.int (-i), M)
  | _, _ => none
theorem sat_neg {c : Ctx} : SatR1 c (rU fun i => .int (-i)) opNeg := fun H as M x d z M' Q m rx h p => by
  cases rx with
  | int i => cases h; exact ⟨i, rfl, p.ok m (.int _)⟩
  | _ => cases h

/-! ### comparisons -/
def opCmp (p : Int → Int → Bool) : D → D → Mem → Option (D × Mem)
  | .int i, .int j, M => some (.bl (p i j), M)
  | _, _, _ => none
abbrev opLt := opCmp fun i j => decide (i < j)
abbrev opLe := opCmp fun i j => decide (i ≤ j)
abbrev opGt := opCmp fun i j => decide (j < i)
abbrev opGe := opCmp fun i j => decide (j ≤ i)
theorem sat_cmp {c : Ctx} {q : Int → Int → Bool} : SatR2 c (rI0 fun i j => .bl (q i j)) (opCmp q) := sat_I0 (f := fun i j => .bl (q i j)) (fun _ _ _ _ _ => .bl _) fun d e M z h => by
  unfold opCmp at h
  split at h
  · cases h; exact ⟨_, _, rfl, rfl, rfl⟩
  · cases h
/-! is, is not: None; True and False -/
def opIsN (x y : D) (M : Mem) : Option (D × Mem) := match y with
  | .non => some (.bl (match x with
    | .non => true
    | _ => false), M)
  | _ => none
def opNotN (x y : D) (M : Mem) : Option (D × Mem) := match y with
  | .non => some (.bl (match x with
    | .non => false
    | _ => true), M)
  | _ => none
theorem sat_isN {c : Ctx} : SatR2 c (fun x y H Q => y = .non ∧ Q (.bl (decide (x = .non))) H) opIsN := fun H as M x y d e z M' Q m rx ry h p => by
  cases ry with
  | non =>
    cases h
    refine ⟨rfl, ?_⟩
    cases rx <;> exact p.ok m (.bl _)
  | _ => cases h
theorem sat_notN {c : Ctx} : SatR2 c (fun x y H Q => y = .non ∧ Q (.bl (!decide (x = .non))) H) opNotN := fun H as M x y d e z M' Q m rx ry h p => by
  cases ry with
  | non =>
    cases h
    refine ⟨rfl, ?_⟩
    cases rx <;> exact p.ok m (.bl _)
  | _ => cases h
def opIsB : D → D → Mem → Option (D × Mem)
  | .bl a, .bl b, M => some (.bl (decide (a = b)), M)
  | _, _, _ => none
def opNotB : D → D → Mem → Option (D × Mem)
  | .bl a, .bl b, M => some (.bl (!decide (a = b)), M)
  | _, _, _ => none
theorem sat_isB {c : Ctx} : SatR2 c rIsB opIsB := fun H as M x y d e z M' Q m rx ry h p => by
  cases rx with
  | bl a =>
    cases ry with
    | bl b => cases h; exact ⟨a, b, rfl, rfl, p.ok m (.bl _)⟩
    | _ => cases h
  | _ => cases h
theorem sat_notB {c : Ctx} : SatR2 c rNotB opNotB := fun H as M x y d e z M' Q m rx ry h p => by
  cases rx with
  | bl a =>
    cases ry with
    | bl b => cases h; exact ⟨a, b, rfl, rfl, p.ok m (.bl _)⟩
    | _ => cases h
  | _ => cases h
/-! in, not in: a sign in a text; data in a list, in a tuple -/
section
variable {X : Cx}
def rInT (K : PySem.W.Frag) (neg : Bool) : R2 := fun x y H Q => ∃ d ds, Dp K H x d ∧ Dp K H y (.tuple ds) ∧ SeqAt.shaped d = true ∧ SeqAt.shaped (.tuple ds) = true ∧ Q (.bl (if neg then !ds.any (fun z => PyData.eqv z d) else ds.any fun z => PyData.eqv z d)) H
theorem op_inT (hu : X.A.units + 65 < cLine) : OpR X (compareOp .In) (rInT X.K false) := by
  intro pins s σ H x y v u Q I rx ry h
  obtain ⟨d, ds, hd, he, sd, se, q⟩ := h
  obtain ⟨as, r1⟩ := Dp.reads I d x v hd rx
  obtain ⟨bs, r2⟩ := Dp.reads I (.tuple ds) y u he ry
  exact SeqAt.in_tuple_reads r2 r1 (SeqAt.canLay_of_shaped se) (SeqAt.canLay_of_shaped sd) (room_in_shaped sd hu) ⟨.bl _, H, I, rfl, q⟩
theorem op_notInT (hu : X.A.units + 65 < cLine) : OpR X (compareOp .NotIn) (rInT X.K true) := by
  intro pins s σ H x y v u Q I rx ry h
  obtain ⟨d, ds, hd, he, sd, se, q⟩ := h
  obtain ⟨as, r1⟩ := Dp.reads I d x v hd rx
  obtain ⟨bs, r2⟩ := Dp.reads I (.tuple ds) y u he ry
  exact SeqAt.notIn_tuple_reads r2 r1 (SeqAt.canLay_of_shaped se) (SeqAt.canLay_of_shaped sd) (room_in_shaped sd hu) ⟨.bl _, H, I, rfl, q⟩
abbrev rInA (K : PySem.W.Frag) : R2 := fun x y H Q => (∃ (c : Nat) (z : Str), x = .str ⟨#[c]⟩ ∧ y = .str z ∧ Q (.bl (decide (c ∈ z.cps.toList))) H) ∨ (fun x y H Q => rInD K x y H Q ∨ rInT K false x y H Q) x y H Q
abbrev rNotInA (K : PySem.W.Frag) : R2 := fun x y H Q => (∃ (c : Nat) (z : Str), x = .str ⟨#[c]⟩ ∧ y = .str z ∧ Q (.bl (!decide (c ∈ z.cps.toList))) H) ∨ (fun x y H Q => rNotInD K x y H Q ∨ rInT K true x y H Q) x y H Q
theorem op_inA (hu : X.A.units + 65 < cLine) : OpR X (compareOp .In) (rInA X.K) := op_in_sign.or ((op_inD hu).or (op_inT hu))
theorem op_notInA (hu : X.A.units + 65 < cLine) : OpR X (compareOp .NotIn) (rNotInA X.K) := op_notIn_sign.or ((op_notInD hu).or (op_notInT hu))
end
def opInB (x y : D) (M : Mem) : Option Bool := match x, y with
  | .str x, .str y => match x.cps.toList with
    | [c] => some (decide (c ∈ y.cps.toList))
    | _ => none
  | x, y => match toPy M x, toPy M y with
    | some d, some (.list ds) => if SeqAt.shaped d = true ∧ SeqAt.shaped (.list ds) = true then some (ds.any fun z => PyData.eqv z d) else none
    | some d, some (.tuple ds) => if SeqAt.shaped d = true ∧ SeqAt.shaped (.tuple ds) = true then some (ds.any fun z => PyData.eqv z d) else none
    | _, _ => none
def opIn (x y : D) (M : Mem) : Option (D × Mem) := match opInB x y M with
  | some b => some (.bl b, M)
  | none => none
def opNotIn (x y : D) (M : Mem) : Option (D × Mem) := match opInB x y M with
  | some b => some (.bl (!b), M)
  | none => none
theorem opInB_cases {x y : D} {M : Mem} {b : Bool} (h : opInB x y M = some b) : (∃ c z, x = .str ⟨#[c]⟩ ∧ y = .str z ∧ b = decide (c ∈ z.cps.toList)) ∨
    (∃ d ds, toPy M x = some d ∧ toPy M y = some (.list ds) ∧ SeqAt.shaped d = true ∧ SeqAt.shaped (.list ds) = true ∧ b = ds.any fun z => PyData.eqv z d) ∨
    (∃ d ds, toPy M x = some d ∧ toPy M y = some (.tuple ds) ∧ SeqAt.shaped d = true ∧ SeqAt.shaped (.tuple ds) = true ∧ b = ds.any fun z => PyData.eqv z d) := by
  unfold opInB at h
  split at h
  · rename_i x z
    split at h
    · rename_i c e
      cases h
      refine .inl ⟨c, z, ?_, rfl, rfl⟩
      obtain ⟨⟨l⟩⟩ := x
      have e' : l = [c] := e
      rw [e']
    · cases h
  · split at h
    · split at h
      · rename_i hs
        cases h
        exact .inr (.inl ⟨_, _, by assumption, by assumption, hs.1, hs.2, rfl⟩)
      · cases h
    · split at h
      · rename_i hs
        cases h
        exact .inr (.inr ⟨_, _, by assumption, by assumption, hs.1, hs.2, rfl⟩)
      · cases h
    · cases h
theorem sat_in {c : Ctx} : SatR2 c (rInA c.K) opIn := fun H as M x y d e z M' Q m rx ry h p => by
  unfold opIn at h
  split at h
  · rename_i b eb
    cases h
    rcases opInB_cases eb with ⟨k, s, rfl, rfl, rfl⟩ | ⟨d, ds, e1, e2, s1, s2, rfl⟩ | ⟨d, ds, e1, e2, s1, s2, rfl⟩
    · cases rx
      cases ry
      exact .inl ⟨k, s, rfl, rfl, p.ok m (.bl _)⟩
    · exact .inr (.inl ⟨d, ds, dp_of m _ _ _ _ rx e1, dp_of m _ _ _ _ ry e2, s1, s2, p.ok m (.bl _)⟩)
    · exact .inr (.inr ⟨d, ds, dp_of m _ _ _ _ rx e1, dp_of m _ _ _ _ ry e2, s1, s2, p.ok m (.bl _)⟩)
  · cases h
theorem sat_notIn {c : Ctx} : SatR2 c (rNotInA c.K) opNotIn := fun H as M x y d e z M' Q m rx ry h p => by
  unfold opNotIn at h
  split at h
  · rename_i b eb
    cases h
    rcases opInB_cases eb with ⟨k, s, rfl, rfl, rfl⟩ | ⟨d, ds, e1, e2, s1, s2, rfl⟩ | ⟨d, ds, e1, e2, s1, s2, rfl⟩
    · cases rx
      cases ry
      exact .inl ⟨k, s, rfl, rfl, p.ok m (.bl _)⟩
    · exact .inr (.inl ⟨d, ds, dp_of m _ _ _ _ rx e1, dp_of m _ _ _ _ ry e2, s1, s2, p.ok m (.bl _)⟩)
    · exact .inr (.inr ⟨d, ds, dp_of m _ _ _ _ rx e1, dp_of m _ _ _ _ ry e2, s1, s2, p.ok m (.bl _)⟩)
  · cases h

/-! ### subscripts, slices -/
def opIx : D → D → Mem → Option (D × Mem)
  | .tup xs, .int i, M => match atI xs i with
    | some d => some (d, M)
    | none => none
  | .fls xs, .int i, M => match atI xs i with
    | some d => some (d, M)
    | none => none
  | .str z, .int i, M => if z.length ≤ sizeLine then (match atI z.cps.toList i with
    | some c => some (.str ⟨#[c]⟩, M)
    | none => none) else none
  | .ref l, .int i, M => match M[l]? with
    | some (.lst xs) => match atI xs i with
      | some d => some (d, M)
      | none => none
    | _ => none
  | _, _, _ => none
theorem RepL.atI {K : PySem.W.Frag} {H : Hp} {as : List Addr} {vs : List V} {ds : List D} {i : Int} {d : D} (h : RepL K H as vs ds) (e : L2.atI ds i = some d) : ∃ v, L2.atI vs i = some v ∧ Rep K H as v d := by
  unfold L2.atI at e ⊢
  rw [h.length]
  cases q : ixN ds.length i with
  | none => rw [q] at e; cases e
  | some j =>
    rw [q] at e
    exact h.get e
theorem sat_ix {c : Ctx} : SatR2 c (rIx c.K) opIx := fun H as M x y d e z M' Q m rx ry h p => by
  cases ry with
  | int i =>
    cases rx with
    | @tup a vs ds h1 h2 =>
      have h' : (match L2.atI ds i with
        | some d => some (d, M)
        | none => none) = some (z, M') := h
      split at h'
      · rename_i d e
        cases h'
        obtain ⟨v, e1, r1⟩ := h2.atI e
        exact .inr (.inl ⟨a, vs, i, v, rfl, rfl, h1, e1, p.ok m r1⟩)
      · cases h'
    | @fls a vs ds h1 h2 =>
      have h' : (match L2.atI ds i with
        | some d => some (d, M)
        | none => none) = some (z, M') := h
      split at h'
      · rename_i d e
        cases h'
        obtain ⟨v, e1, r1⟩ := h2.atI e
        exact .inl ⟨a, vs, i, v, rfl, rfl, h1.sq, e1, p.ok m r1⟩
      · cases h'
    | str s =>
      have h' : (if s.length ≤ sizeLine then (match L2.atI s.cps.toList i with
        | some c => some (D.str ⟨#[c]⟩, M)
        | none => none) else none) = some (z, M') := h
      split at h'
      · rename_i hl
        split at h'
        · rename_i k e
          cases h'
          exact .inr (.inr ⟨s, i, k, rfl, rfl, hl, e, p.ok m (.str _)⟩)
        · cases h'
      · cases h'
    | @ref a l h1 =>
      have h' : (match M[l]? with
        | some (.lst xs) => match L2.atI xs i with
          | some d => some (d, M)
          | none => none
        | _ => none) = some (z, M') := h
      split at h'
      · rename_i xs e0
        split at h'
        · rename_i d e
          cases h'
          obtain ⟨vs, e2, r2⟩ := m.ob _ _ _ h1 e0
          obtain ⟨v, e1, r1⟩ := r2.atI e
          exact .inl ⟨a, vs, i, v, rfl, rfl, SqL.of e2, e1, p.ok m r1⟩
        · cases h'
      · cases h'
    | _ => cases h
  | _ =>
    exfalso
    cases d <;> cases h
/-- xs[a:b] -/
def cutD (xs : List D) (lo hi : Option Int) : List D := (xs.drop (HT.sIx xs.length 0 lo)).take (HT.sIx xs.length xs.length hi - HT.sIx xs.length 0 lo)
theorem RepL.cut {K : PySem.W.Frag} {H : Hp} {as : List Addr} {vs : List V} {ds : List D} (h : RepL K H as vs ds) (lo hi : Option Int) : RepL K H as (cutV vs lo hi) (cutD ds lo hi) := by
  unfold cutV cutD
  rw [h.length]
  exact (h.drop _).take _
def opSl : D → Option Int → Option Int → Mem → Option (D × Mem)
  | .tup xs, lo, hi, M => some (.tup (cutD xs lo hi), M)
  | .fls xs, lo, hi, M => newL (cutD xs lo hi) M
  | .str z, lo, hi, M => if z.length ≤ sizeLine then some (.str (cutS z lo hi), M) else none
  | .ref l, lo, hi, M => match M[l]? with
    | some (.lst xs) => newL (cutD xs lo hi) M
    | _ => none
  | _, _, _, _ => none
abbrev rSlD (K : PySem.W.Frag) : V → Option Int → Option Int → Hp → VK → Prop := fun x lo hi H Q => rSlA K x lo hi H Q ∨ (fun x lo hi H Q => rSlL K x lo hi H Q ∨ rSlS x lo hi H Q) x lo hi H Q
theorem sl_D {X : Cx} : SlR X (rSlD X.K) := sl_tupA.or (sl_list.or sl_str)
theorem sat_sl {c : Ctx} {H : Hp} {as : List Addr} {M M' : Mem} {x : V} {d z : D} {lo hi : Option Int} {Q : VK} (m : MemR c.K c.mg H as M) (rx : Rep c.K H as x d) (h : opSl d lo hi M = some (z, M')) (p : Post c (rD c) H as M' (.ok z) Q) : rSlD c.K x lo hi H Q := by
  cases rx with
  | @tup a vs ds h1 h2 =>
    cases h
    refine .inl ⟨a, vs, rfl, h1, fun hw => ?_, fun _ => p.newT m (h2.cut lo hi)⟩
    have e : cutD ds lo hi = ds := by
      rw [h2.length] at hw
      unfold cutD
      rw [hw.1, hw.2, List.drop_zero, Nat.sub_zero, List.take_length]
    rw [e] at p
    exact p.ok m (.tup h1 h2)
  | @fls a vs ds h1 h2 =>
    obtain ⟨_, q⟩ := p.newL h m (h2.cut lo hi)
    exact .inr (.inl ⟨a, vs, rfl, h1.sq, q⟩)
  | str s =>
    have h' : (if s.length ≤ sizeLine then some (D.str (cutS s lo hi), M) else none) = some (z, M') := h
    split at h'
    · rename_i hl
      cases h'
      exact .inr (.inr ⟨s, rfl, hl, p.ok m (.str _)⟩)
    · cases h'
  | @ref a l h1 =>
    have h' : (match M[l]? with
      | some (.lst xs) => newL (cutD xs lo hi) M
      | _ => none) = some (z, M') := h
    split at h'
    · rename_i xs e0
      obtain ⟨vs, e2, r2⟩ := m.ob _ _ _ h1 e0
      obtain ⟨_, q⟩ := p.newL h' m (r2.cut lo hi)
      exact .inr (.inl ⟨a, vs, rfl, SqL.of e2, q⟩)
    · cases h'
  | _ => cases h
def oNo : Cp (Option Int) := pureC none
def oSome (e : Cp D) : Cp (Option Int) := bindC e fun d => match d with
  | .int i => pureC (some i)
  | _ => failC
def eSl (e : Cp D) (lo hi : Cp (Option Int)) : Cp D := bindC e fun d => bindC lo fun l => bindC hi fun h => memC (opSl d l h)
section
variable {X : Cx} {E : XK} {e : Expr} {lo hi : Option Expr} {fe : Cp D} {fl fh : Cp (Option Int)} {pos p2 : Pos}
theorem do_no : PO X none (tO (cX X E) oNo) := po_none.imp fun σ H Q ⟨as, M, ρ, r, M', hs, hm, hf, hp⟩ => by
  cases hf
  exact hp.ok hm rfl
theorem do_some (h : PE X e (tD (cX X E) fe)) : PO X (some e) (tO (cX X E) (oSome fe)) := (po_some h).imp fun σ H Q ⟨as, M, ρ, r, M', hs, hm, hf, hp⟩ =>
  run_bind hs hm hf hp fun as1 v H1 d M1 e1 s1 m1 r1 f1 p1 => by
    cases r1 with
    | int i =>
      cases f1
      exact ⟨i, rfl, p1.ok m1 rfl⟩
    | _ => cases f1
theorem d_sl (he : PE X e (tD (cX X E) fe)) (hl : PO X lo (tO (cX X E) fl)) (hu : PO X hi (tO (cX X E) fh)) : PE X (.Subscript e (.Slice lo hi none p2) pos) (tD (cX X E) (eSl fe fl fh)) := (pe_slice sl_D he hl hu).imp fun σ H Q ⟨as, M, ρ, r, M', hs, hm, hf, hp⟩ =>
  run_bind hs hm hf hp fun as1 v H1 d M1 e1 s1 m1 r1 f1 p1 => run_bind s1 m1 f1 p1 fun as2 l H2 l' M2 e2 s2 m2 r2 f2 p2 => run_bind s2 m2 f2 p2 fun as3 u H3 u' M3 e3 s3 m3 r3 f3 p3 => by
    obtain ⟨z, rfl, hz⟩ := run_mem f3
    obtain rfl : l = l' := r2
    obtain rfl : u = u' := r3
    exact sat_sl m3 (r1.up (e2.trans e3)) hz p3
end
/-! o[i] = v: a list -/
def setL : D → D → D → Mem → Option Mem
  | .ref l, .int k, v, M => match M[l]? with
    | some (.lst xs) => match ixN xs.length k with
      | some j => some (M.set l (.lst (xs.set j v)))
      | none => none
    | _ => none
  | _, _, _, _ => none
theorem sat_setL {c : Ctx} : SatSet c rSetL setL := fun H as M x y v d e w M' Q m rx ry rv h q => by
  cases rx with
  | @ref a l h1 =>
    cases ry with
    | int k =>
      have h' : (match M[l]? with
        | some (.lst xs) => match ixN xs.length k with
          | some j => some (M.set l (.lst (xs.set j w)))
          | none => none
        | _ => none) = some M' := h
      split at h'
      · rename_i xs e0
        split at h'
        · rename_i j ej
          cases h'
          obtain ⟨vs, e2, r2⟩ := m.ob _ _ _ h1 e0
          exact ⟨a, vs, k, j, rfl, rfl, e2, by rw [r2.length]; exact ej, q as _ (m.ext h1 e0) (m.set (u := .lst (xs.set j w)) h1 e0 ⟨_, upd_same, (r2.set j rv).up (m.ext h1 e0)⟩)⟩
        · cases h'
      · cases h'
    | _ => cases h
  | _ => cases h
end DL

namespace DL
open PySem PySem.Spec PyProof.Rows L2

/-! ### calls of built-ins -/
theorem SatC.or1 {c : Ctx} {r r' : List V → Hp → VK → Prop} {g : List D → Mem → Option (D × Mem)} (h : SatC c r g) : SatC c (fun xs H Q => r xs H Q ∨ r' xs H Q) g := fun H as M xs ds z M' Q m rx hz p => .inl (h H as M xs ds z M' Q m rx hz p)
theorem RepL.one {K : PySem.W.Frag} {H : Hp} {as : List Addr} {vs : List V} {d : D} (h : RepL K H as vs [d]) : ∃ v, vs = [v] ∧ Rep K H as v d := by
  cases h with
  | cons r t => cases t; exact ⟨_, rfl, r⟩
theorem RepL.two {K : PySem.W.Frag} {H : Hp} {as : List Addr} {vs : List V} {d e : D} (h : RepL K H as vs [d, e]) : ∃ v u, vs = [v, u] ∧ Rep K H as v d ∧ Rep K H as u e := by
  cases h with
  | cons r t =>
    obtain ⟨u, rfl, r2⟩ := t.one
    exact ⟨_, _, rfl, r, r2⟩
/-- what stands in a sequence -/
def seqD (M : Mem) : D → Option (List D)
  | .tup xs => some xs
  | .fls xs => some xs
  | .ref l => match M[l]? with
    | some (.lst xs) => some xs
    | _ => none
  | _ => none
theorem seqD_of {c : Ctx} {H : Hp} {as : List Addr} {M : Mem} {v : V} {d : D} {ds : List D} (m : MemR c.K c.mg H as M) (r : Rep c.K H as v d) (h : seqD M d = some ds) : ∃ a vs, v = .ref a ∧ (SqL c.K H a vs ∨ SqT c.K H a vs) ∧ RepL c.K H as vs ds := by
  cases r with
  | @tup a vs ds' h1 h2 => cases h; exact ⟨a, vs, rfl, .inr h1, h2⟩
  | @fls a vs ds' h1 h2 => cases h; exact ⟨a, vs, rfl, .inl h1.sq, h2⟩
  | @ref a l h1 =>
    have h' : (match M[l]? with
      | some (.lst xs) => some xs
      | _ => none) = some ds := h
    split at h'
    · rename_i xs e
      cases h'
      obtain ⟨vs, e2, r2⟩ := m.ob _ _ _ h1 e
      exact ⟨a, vs, rfl, .inl (SqL.of e2), r2⟩
    · cases h'
  | _ => cases h
/-- .. in a list alone -/
def lstD (M : Mem) : D → Option (List D)
  | .fls xs => some xs
  | .ref l => match M[l]? with
    | some (.lst xs) => some xs
    | _ => none
  | _ => none
theorem lstD_of {c : Ctx} {H : Hp} {as : List Addr} {M : Mem} {v : V} {d : D} {ds : List D} (m : MemR c.K c.mg H as M) (r : Rep c.K H as v d) (h : lstD M d = some ds) : ∃ a vs, v = .ref a ∧ SqL c.K H a vs ∧ RepL c.K H as vs ds := by
  cases r with
  | @fls a vs ds' h1 h2 => cases h; exact ⟨a, vs, rfl, h1.sq, h2⟩
  | @ref a l h1 =>
    have h' : (match M[l]? with
      | some (.lst xs) => some xs
      | _ => none) = some ds := h
    split at h'
    · rename_i xs e
      cases h'
      obtain ⟨vs, e2, r2⟩ := m.ob _ _ _ h1 e
      exact ⟨a, vs, rfl, SqL.of e2, r2⟩
    · cases h'
  | _ => cases h
/-! len -/
def cLen (ds : List D) (M : Mem) : Option (D × Mem) := match ds with
  | [.str y] => if y.length ≤ sizeLine then some (.int (y.length : Nat), M) else none
  | [.ref l] => match M[l]? with
    | some (.lst xs) => some (.int (xs.length : Nat), M)
    | some (.dK kvs) => some (.int (kvs.length : Nat), M)
    | some (.dT kvs) => some (.int (kvs.length : Nat), M)
    | _ => none
  | [.tup xs] => some (.int (xs.length : Nat), M)
  | [.fls xs] => some (.int (xs.length : Nat), M)
  | _ => none
abbrev rLenA (K : PySem.W.Frag) : List V → Hp → VK → Prop := fun xs H Q => (∃ x n, xs = [x] ∧ LenV K x H n ∧ Q (.int n) H) ∨ (fun xs H Q => (∃ (p : Addr) (kvs : List (Key × V)), xs = [.ref p] ∧ H p = some (.dK kvs) ∧ Q (.int kvs.length) H) ∨ rLenT xs H Q) xs H Q
theorem call_lenA {X : Cx} : CallR X (.builtin "len") (rLenA X.K) := call_len.or (call_lenD.or call_len_dT)
theorem sat_len {c : Ctx} : SatC c (rLenA c.K) cLen := fun H as M xs ds z M' Q m rx h p => by
  unfold cLen at h
  split at h
  · rename_i y
    obtain ⟨v, rfl, r⟩ := rx.one
    cases r
    split at h
    · rename_i hl
      cases h
      exact .inl ⟨_, _, rfl, ⟨hl, rfl⟩, p.ok m (.int _)⟩
    · cases h
  · rename_i l
    obtain ⟨v, rfl, r⟩ := rx.one
    cases r with
    | @ref a l h1 =>
      split at h
      · rename_i xs e
        cases h
        obtain ⟨vs, e2, r2⟩ := m.ob _ _ _ h1 e
        exact .inl ⟨_, _, rfl, .inl ⟨vs, SqL.of e2, rfl⟩, by rw [r2.length]; exact p.ok m (.int _)⟩
      · rename_i kvs e
        cases h
        obtain ⟨vs, e2, r2⟩ := m.ob _ _ _ h1 e
        have hl : vs.length = kvs.length := by simpa using congrArg List.length r2.1
        exact .inr (.inl ⟨_, vs, rfl, e2, by rw [hl]; exact p.ok m (.int _)⟩)
      · rename_i kvs e
        cases h
        obtain ⟨vs, e2, r2⟩ := m.ob _ _ _ h1 e
        have hl : vs.length = kvs.length := by simpa using congrArg List.length r2.1
        exact .inr (.inr ⟨_, vs, rfl, e2, by rw [hl]; exact p.ok m (.int _)⟩)
      · cases h
  · rename_i xs
    obtain ⟨v, rfl, r⟩ := rx.one
    cases h
    cases r with
    | @tup a vs ds h1 h2 => exact .inl ⟨_, _, rfl, .inr ⟨vs, h1, rfl⟩, by rw [h2.length]; exact p.ok m (.int _)⟩
  · rename_i xs
    obtain ⟨v, rfl, r⟩ := rx.one
    cases h
    cases r with
    | @fls a vs ds h1 h2 => exact .inl ⟨_, _, rfl, .inl ⟨vs, h1.sq, rfl⟩, by rw [h2.length]; exact p.ok m (.int _)⟩
  · cases h

/-! numbers -/
def cAbs (ds : List D) (M : Mem) : Option (D × Mem) := match ds with
  | [.int i] => some (.int (if i < 0 then -i else i), M)
  | _ => none
theorem sat_abs {c : Ctx} : SatC c (fun xs H Q => ∃ i, xs = [.int i] ∧ Q (.int (if i < 0 then -i else i)) H) cAbs := fun H as M xs ds z M' Q m rx h p => by
  unfold cAbs at h
  split at h
  · obtain ⟨v, rfl, r⟩ := rx.one
    cases r
    cases h
    exact ⟨_, rfl, p.ok m (.int _)⟩
  · cases h
def cMin2 (ds : List D) (M : Mem) : Option (D × Mem) := match ds with
  | [.int i, .int j] => some (.int (if j < i then j else i), M)
  | _ => none
def cMax2 (ds : List D) (M : Mem) : Option (D × Mem) := match ds with
  | [.int i, .int j] => some (.int (if j > i then j else i), M)
  | _ => none
theorem sat_min2 {c : Ctx} : SatC c (fun xs H Q => ∃ i j, xs = [.int i, .int j] ∧ Q (.int (if j < i then j else i)) H) cMin2 := fun H as M xs ds z M' Q m rx h p => by
  unfold cMin2 at h
  split at h
  · obtain ⟨v, u, rfl, r, r2⟩ := rx.two
    cases r
    cases r2
    cases h
    exact ⟨_, _, rfl, p.ok m (.int _)⟩
  · cases h
theorem sat_max2 {c : Ctx} : SatC c (fun xs H Q => ∃ i j, xs = [.int i, .int j] ∧ Q (.int (if j > i then j else i)) H) cMax2 := fun H as M xs ds z M' Q m rx h p => by
  unfold cMax2 at h
  split at h
  · obtain ⟨v, u, rfl, r, r2⟩ := rx.two
    cases r
    cases r2
    cases h
    exact ⟨_, _, rfl, p.ok m (.int _)⟩
  · cases h
def cInt (ds : List D) (M : Mem) : Option (D × Mem) := match ds with
  | [.int i] => some (.int i, M)
  | [.bl b] => some (.int (if b = true then 1 else 0), M)
  | _ => none
theorem sat_int {c : Ctx} : SatC c (fun xs H Q => (∃ i, xs = [.int i] ∧ Q (.int i) H) ∨ ∃ k : Bool, xs = [.bl k] ∧ Q (.int (if k then 1 else 0)) H) cInt := fun H as M xs ds z M' Q m rx h p => by
  unfold cInt at h
  split at h
  · obtain ⟨v, rfl, r⟩ := rx.one
    cases r
    cases h
    exact .inl ⟨_, rfl, p.ok m (.int _)⟩
  · obtain ⟨v, rfl, r⟩ := rx.one
    cases r
    cases h
    exact .inr ⟨_, rfl, p.ok m (.int _)⟩
  · cases h
/-! lists, tuples made of others -/
def cTup (ds : List D) (M : Mem) : Option (D × Mem) := match ds with
  | [d] => match seqD M d with
    | some xs => some (.tup xs, M)
    | none => none
  | _ => none
theorem sat_tup {c : Ctx} : SatC c (fun xs H Q => ∃ p ys, xs = [.ref p] ∧ ((SqL c.K H p ys ∧ ∀ l, H l = none → Q (.ref l) (upd H l (.tup ys))) ∨ (SqT c.K H p ys ∧ Q (.ref p) H))) cTup := fun H as M xs ds z M' Q m rx h p => by
  unfold cTup at h
  split at h
  · split at h
    · rename_i e
      obtain ⟨v, rfl, r⟩ := rx.one
      cases h
      obtain ⟨a, vs, rfl, hq, rl⟩ := seqD_of m r e
      rcases hq with hq | hq
      · exact ⟨a, vs, rfl, .inl ⟨hq, p.newT m rl⟩⟩
      · exact ⟨a, vs, rfl, .inr ⟨hq, p.ok m (.tup hq rl)⟩⟩
    · cases h
  · cases h
def cLst (ds : List D) (M : Mem) : Option (D × Mem) := match ds with
  | [d] => match seqD M d with
    | some xs => newL xs M
    | none => none
  | _ => none
theorem sat_lst {c : Ctx} : SatC c (fun xs H Q => ∃ p ys, xs = [.ref p] ∧ (SqL c.K H p ys ∨ SqT c.K H p ys) ∧ ∀ l, H l = none → Q (.ref l) (upd H l (.lst ys))) cLst := fun H as M xs ds z M' Q m rx h p => by
  unfold cLst at h
  split at h
  · split at h
    · rename_i e
      obtain ⟨v, rfl, r⟩ := rx.one
      obtain ⟨a, vs, rfl, hq, rl⟩ := seqD_of m r e
      exact ⟨a, vs, rfl, hq, (p.newL h m rl).2⟩
    · cases h
  · cases h
/-! any, all, sum -/
def blsD : List D → Option (List Bool)
  | [] => some []
  | .bl b :: r => (blsD r).map (b :: ·)
  | _ :: _ => none
def intsD : List D → Option (List Int)
  | [] => some []
  | .int b :: r => (intsD r).map (b :: ·)
  | _ :: _ => none
def strsD : List D → Option (List Str)
  | [] => some []
  | .str b :: r => (strsD r).map (b :: ·)
  | _ :: _ => none
theorem blsD_of {K : PySem.W.Frag} {H : Hp} {as : List Addr} : ∀ {ds : List D} {vs : List V} {bs : List Bool}, RepL K H as vs ds → blsD ds = some bs → vs = bs.map V.bl
  | [], _, _, r, h => by cases r; cases h; rfl
  | d :: ds, _, _, r, h => by
    cases r with
    | cons r1 r2 =>
      cases d with
      | bl b =>
        have h' : (blsD ds).map (b :: ·) = some _ := h
        cases e : blsD ds with
        | none => rw [e] at h'; cases h'
        | some q =>
          rw [e] at h'
          cases h'
          cases r1
          rw [blsD_of r2 e]
          rfl
      | _ => cases h
theorem intsD_of {K : PySem.W.Frag} {H : Hp} {as : List Addr} : ∀ {ds : List D} {vs : List V} {bs : List Int}, RepL K H as vs ds → intsD ds = some bs → vs = bs.map V.int
  | [], _, _, r, h => by cases r; cases h; rfl
  | d :: ds, _, _, r, h => by
    cases r with
    | cons r1 r2 =>
      cases d with
      | int b =>
        have h' : (intsD ds).map (b :: ·) = some _ := h
        cases e : intsD ds with
        | none => rw [e] at h'; cases h'
        | some q =>
          rw [e] at h'
          cases h'
          cases r1
          rw [intsD_of r2 e]
          rfl
      | _ => cases h
theorem strsD_of {K : PySem.W.Frag} {H : Hp} {as : List Addr} : ∀ {ds : List D} {vs : List V} {bs : List Str}, RepL K H as vs ds → strsD ds = some bs → vs = bs.map V.str
  | [], _, _, r, h => by cases r; cases h; rfl
  | d :: ds, _, _, r, h => by
    cases r with
    | cons r1 r2 =>
      cases d with
      | str b =>
        have h' : (strsD ds).map (b :: ·) = some _ := h
        cases e : strsD ds with
        | none => rw [e] at h'; cases h'
        | some q =>
          rw [e] at h'
          cases h'
          cases r1
          rw [strsD_of r2 e]
          rfl
      | _ => cases h
def cOnLst {α : Type} (g : List D → Option α) (f : α → D) (ds : List D) (M : Mem) : Option (D × Mem) := match ds with
  | [d] => match (lstD M d).bind g with
    | some a => some (f a, M)
    | none => none
  | _ => none
theorem cOnLst_of {α : Type} {g : List D → Option α} {f : α → D} {c : Ctx} {H : Hp} {as : List Addr} {M M' : Mem} {xs : List V} {ds : List D} {z : D} (m : MemR c.K c.mg H as M) (rx : RepL c.K H as xs ds) (h : cOnLst g f ds M = some (z, M')) :
    ∃ a vs es x, xs = [.ref a] ∧ SqL c.K H a vs ∧ RepL c.K H as vs es ∧ g es = some x ∧ z = f x ∧ M' = M := by
  unfold cOnLst at h
  split at h
  · rename_i d
    split at h
    · rename_i x e
      cases h
      obtain ⟨v, rfl, r⟩ := rx.one
      cases e1 : lstD M d with
      | none => rw [e1] at e; cases e
      | some es =>
        rw [e1] at e
        obtain ⟨a, vs, rfl, hq, rl⟩ := lstD_of m r e1
        exact ⟨a, vs, es, x, rfl, hq, rl, e, rfl, rfl⟩
    · cases h
  · cases h
abbrev cAny := cOnLst blsD fun bs => .bl (bs.any id)
abbrev cAll := cOnLst blsD fun bs => .bl (bs.all id)
abbrev cSum := cOnLst intsD fun ns => .int ns.sum
theorem sat_any {c : Ctx} : SatC c (rAny c.K) cAny := fun H as M xs ds z M' Q m rx h p => by
  obtain ⟨a, vs, es, bs, rfl, hq, rl, e, rfl, rfl⟩ := cOnLst_of m rx h
  rw [blsD_of rl e] at hq
  exact ⟨a, bs, rfl, hq, p.ok m (.bl _)⟩
theorem sat_all {c : Ctx} : SatC c (rAll c.K) cAll := fun H as M xs ds z M' Q m rx h p => by
  obtain ⟨a, vs, es, bs, rfl, hq, rl, e, rfl, rfl⟩ := cOnLst_of m rx h
  rw [blsD_of rl e] at hq
  exact ⟨a, bs, rfl, hq, p.ok m (.bl _)⟩
theorem sat_sum {c : Ctx} : SatC c (rSum c.K) cSum := fun H as M xs ds z M' Q m rx h p => by
  obtain ⟨a, vs, es, bs, rfl, hq, rl, e, rfl, rfl⟩ := cOnLst_of m rx h
  rw [intsD_of rl e] at hq
  exact ⟨a, bs, rfl, hq, p.ok m (.int _)⟩
/-! isinstance(x, T), T built in -/
def tyN (M : Mem) : D → Option String
  | .non => some "NoneType"
  | .bl _ => some "bool"
  | .int _ => some "int"
  | .str _ => some "str"
  | .tup _ => some "tuple"
  | .fls _ => none
  | .ty _ => none
  | .ref l => match M[l]? with
    | some (.lst _) => some "list"
    | some (.dK _) => some "dict"
    | _ => none
def cIsi (ds : List D) (M : Mem) : Option (D × Mem) := match ds with
  | [x, .ty b] => match tyN M x with
    | some a => match kitB a b with
      | some r => some (.bl r, M)
      | none => none
    | none => none
  | _ => none
theorem tyX_of {c : Ctx} {H : Hp} {as : List Addr} {M : Mem} {v : V} {d : D} {a : String} (m : MemR c.K c.mg H as M) (r : Rep c.K H as v d) (h : tyN M d = some a) : TyX c.K H v (.type a) := by
  cases r with
  | non => cases h; exact .base .non
  | bl b => cases h; exact .base (.bl b)
  | int i => cases h; exact .base (.int i)
  | str x => cases h; exact .base (.str x)
  | ty n => cases h
  | @tup p vs ds h1 h2 =>
    cases h
    rcases h1 with (h1 | ⟨o, h1⟩) | ⟨o, its, n, h1, h3, _⟩
    · exact .base (.tup h1)
    · exact .fTuple h1
    · exact .kTuple h1 h3
  | @fls p vs ds h1 h2 => cases h
  | @ref p l h1 =>
    have h' : (match M[l]? with
      | some (.lst _) => some "list"
      | some (.dK _) => some "dict"
      | _ => none) = some a := h
    split at h'
    · rename_i e
      cases h'
      obtain ⟨vs, e2, _⟩ := m.ob _ _ _ h1 e
      exact .base (.lst e2)
    · rename_i e
      cases h'
      obtain ⟨vs, e2, _⟩ := m.ob _ _ _ h1 e
      exact .base (.dK e2)
    · cases h'
theorem sat_isi {c : Ctx} : SatC c (rIsi c.K) cIsi := fun H as M xs ds z M' Q m rx h p => by
  unfold cIsi at h
  split at h
  · split at h
    · rename_i a e
      split at h
      · rename_i k ek
        cases h
        obtain ⟨v, u, rfl, r, r2⟩ := rx.two
        cases r2
        exact ⟨v, _, _, _, k, rfl, .ty _, tyX_of m r e, kit_ty ek, p.ok m (.bl _)⟩
      · cases h
    · cases h
  · cases h
section
variable {X : Cx} {E : XK} {pos : Pos}
/-- a built-in class as a value -/
theorem d_ty {x : Str} {T : String} (hm : X.mg x = none) (hg : Gl X x := by rfl) (hv : bootBuiltins x = some (.type T) := by decide +kernel) (hn : x ≠ "__name__" := by decide) (hd : (x == ("__debug__" : Str)) = false := by decide) : PE X (.Name x pos) (tD (cX X E) (eC (.ty T))) :=
  (pe_bltn (v := .ty T) hg hm hv rfl hn hd).imp (tC_of fun _ _ => .ty T)
end
end DL

namespace DL
open PySem PySem.Spec PyProof.Rows L2

/-! ### sorted -/
def rSortD (K : PySem.W.Frag) : List V → Hp → VK → Prop := fun vs H Q => ∃ (a : Addr) (bs : List (V × PyData)), vs = [.ref a] ∧ SqL K H a (bs.map Prod.fst) ∧ (∀ b ∈ bs, Dp K H b.1 b.2) ∧ PySem.W.AllAlike (bs.map Prod.snd) ∧ PySem.W.Sortable (bs.map Prod.snd) ∧
  (∀ b ∈ bs, b.2.depth ≤ 50) ∧ ∀ p, H p = none → Q (.ref p) (upd H p (.lst ((bs.mergeSort (PySem.W.dataLe false Prod.snd)).map Prod.fst)))
theorem each_vals {bs : List (V × PyData)} : ∀ {us : List Value}, Vals (bs.map Prod.fst) us → PySem.W.EachIs (fun (u : Value) (b : V × PyData) => RelV b.1 u) us bs := by
  induction bs with
  | nil => intro us r; cases r; exact .nil
  | cons b bs ih =>
    intro us r
    cases r with
    | cons r1 r2 => exact .cons r1 (ih r2)
theorem vals_each {bs : List (V × PyData)} : ∀ {us : List Value}, PySem.W.EachIs (fun (u : Value) (b : V × PyData) => RelV b.1 u) us bs → Vals (bs.map Prod.fst) us := by
  induction bs with
  | nil => intro us r; cases r; exact .nil
  | cons b bs ih =>
    intro us r
    cases r with
    | cons r1 r2 => exact .cons r1 (ih r2)
theorem cr_sortD {X : Cx} (hu : X.A.units + 64 < cLine) : CallR X (.builtin "sorted") (rSortD X.K) := by
  intro pins s σ H vs us Q I r h
  obtain ⟨a, bs, rfl, hs, hd, ha, hk, hz, q⟩ := h
  obtain ⟨its, rv, hl, hlen⟩ := I.list hs
  rw [Vals.ref1 r]
  have er : PySem.W.EachIs (fun (u : Value) (b : V × PyData) => ∃ as, Reads s.heap u b.2 as) its bs := by
    have : ∀ (bs : List (V × PyData)) (us : List Value), (∀ b ∈ bs, Dp X.K H b.1 b.2) → Vals (bs.map Prod.fst) us → PySem.W.EachIs (fun (u : Value) (b : V × PyData) => ∃ as, Reads s.heap u b.2 as) us bs := by
      intro bs
      induction bs with
      | nil => intro us _ r; cases r; exact .nil
      | cons b bs ih =>
        intro us hd r
        cases r with
        | cons r1 r2 => exact .cons (Dp.reads I _ _ _ (hd b List.mem_cons_self) r1) (ih _ (fun x hx => hd x (List.mem_cons_of_mem _ hx)) r2)
    exact this bs its hd rv
  refine PySem.W.sorted_data (R := fun (u : Value) (b : V × PyData) => RelV b.1 u) (enc := Prod.snd) hl.isList (each_vals rv) er ha hk (by rw [List.length_map] at hlen; exact hlen) (fun b hb => by have := hz b hb; omega) fun out ho eo => ?_
  obtain ⟨ep, he'⟩ := PyProof.Rows.sortedAll_at s.heap its out.toArray
  have hl2 : ((bs.mergeSort (PySem.W.dataLe false Prod.snd)).map Prod.fst).length ≤ sizeLine := by
    rw [List.length_map, List.length_mergeSort]
    rw [List.length_map] at hlen
    exact hlen
  exact ⟨.ref _, upd H (s.heap.objs.size + 1) (.lst ((bs.mergeSort (PySem.W.dataLe false Prod.snd)).map Prod.fst)), I.laid (t' := s.toks) (fun _ _ => PyProof.Rows.sortedAll_old) (Nat.le_succ _) ⟨hl2, out, ep, vals_each eo, he'⟩, rfl, q _ (I.hok.fresh (Nat.le_succ _))⟩
def sortableB (ps : List PyData) : Bool := (ps.all fun d => match d with
  | .tuple (_ :: _) => true
  | _ => false) || ps.all fun d => match d with
  | .none => false
  | .tuple _ => false
  | _ => true
theorem sortable_of {ps : List PyData} (h : sortableB ps = true) : PySem.W.Sortable ps := by
  unfold sortableB at h
  rcases Bool.or_eq_true_iff.mp h with h | h
  · refine .inl fun d hd => ?_
    have := List.all_eq_true.mp h d hd
    split at this
    · exact ⟨_, _, rfl⟩
    · cases this
  · refine .inr fun d hd => ?_
    have := List.all_eq_true.mp h d hd
    split at this
    · cases this
    · cases this
    · rename_i h1 h2
      exact ⟨h1, h2⟩
def alikeB (ps : List PyData) : Bool := ps.all fun d => ps.all fun e => PySem.W.alike d e
theorem alike_of {ps : List PyData} (h : alikeB ps = true) : PySem.W.AllAlike ps := fun d hd e he => List.all_eq_true.mp (List.all_eq_true.mp h d hd) e he
/-- sorted, by what the items are as data -/
def sortD (M : Mem) (ds : List D) : Option (List D) := match ds.mapM (toPy M) with
  | some ps => if alikeB ps = true ∧ sortableB ps = true ∧ (ps.all fun p => decide (p.depth ≤ 50)) = true then some (((ds.zip ps).mergeSort (PySem.W.dataLe false Prod.snd)).map Prod.fst) else none
  | none => none
def cSorted (ds : List D) (M : Mem) : Option (D × Mem) := match ds with
  | [d] => match (lstD M d).bind (sortD M) with
    | some xs => newL xs M
    | none => none
  | _ => none
theorem mapM_len {α β : Type} {f : α → Option β} : ∀ {xs : List α} {ys : List β}, xs.mapM f = some ys → ys.length = xs.length
  | [], _, h => by rw [List.mapM_nil] at h; cases h; rfl
  | x :: xs, _, h => by
    obtain ⟨y, zs, _, e, rfl⟩ := mapM_cons_some h
    simp [mapM_len e]
theorem zip3 {K : PySem.W.Frag} {mg : Str → Option Value} {E : XK} {H : Hp} {as : List Addr} {M : Mem} (m : MemR K mg H as M) : ∀ {ds : List D} {vs : List V} {ps : List PyData}, RepL K H as vs ds → ds.mapM (toPy M) = some ps →
    ∃ ts : List (V × D × PyData), vs = ts.map (·.1) ∧ ds = ts.map (·.2.1) ∧ ps = ts.map (·.2.2) ∧ ∀ t ∈ ts, Rep K H as t.1 t.2.1 ∧ Dp K H t.1 t.2.2
  | [], _, _, r, h => by
    cases r
    rw [List.mapM_nil] at h
    cases h
    exact ⟨[], rfl, rfl, rfl, fun _ h => by cases h⟩
  | d :: ds, _, _, r, h => by
    cases r with
    | @cons v vs _ _ r1 r2 =>
      obtain ⟨p, ps, e1, e2, rfl⟩ := mapM_cons_some h
      obtain ⟨ts, rfl, h2, rfl, h4⟩ := zip3 (E := E) m r2 e2
      subst h2
      refine ⟨(v, d, p) :: ts, rfl, rfl, rfl, fun t ht => ?_⟩
      rcases List.mem_cons.mp ht with rfl | ht
      · exact ⟨r1, dp_of (c := ⟨K, mg, E⟩) m _ _ _ _ r1 e1⟩
      · exact h4 t ht
theorem repL_map {K : PySem.W.Frag} {H : Hp} {as : List Addr} : ∀ {ts : List (V × D × PyData)}, (∀ t ∈ ts, Rep K H as t.1 t.2.1) → RepL K H as (ts.map (·.1)) (ts.map (·.2.1))
  | [], _ => .nil
  | t :: ts, h => .cons (h t List.mem_cons_self) (repL_map fun u hu => h u (List.mem_cons_of_mem _ hu))
theorem zip_map2 {α β γ : Type} (f : α → β) (g : α → γ) (l : List α) : (l.map f).zip (l.map g) = l.map fun x => (f x, g x) := by
  induction l with
  | nil => rfl
  | cons x l ih => simp [ih]
theorem sat_sorted {c : Ctx} : SatC c (rSortD c.K) cSorted := fun H as M xs ds z M' Q m rx h p => by
  unfold cSorted at h
  split at h
  · rename_i d
    split at h
    · rename_i ys e
      obtain ⟨v, rfl, r⟩ := rx.one
      cases e1 : lstD M d with
      | none => rw [e1] at e; cases e
      | some es =>
        rw [e1] at e
        obtain ⟨a, vs, rfl, hq, rl⟩ := lstD_of m r e1
        have e' : sortD M es = some ys := e
        unfold sortD at e'
        split at e'
        · rename_i ps em
          split at e'
          · rename_i hc
            cases e'
            obtain ⟨ts, rfl, h2, rfl, h4⟩ := zip3 (E := c.E) m rl em
            subst h2
            have sorts : ∀ {β : Type} (f : V × D × PyData → β) (g : β → PyData), (∀ t, g (f t) = t.2.2) → (ts.map f).mergeSort (PySem.W.dataLe false g) = (ts.mergeSort (PySem.W.dataLe false fun t => t.2.2)).map f := by
              intro β f g hfg
              refine (List.map_mergeSort (r := PySem.W.dataLe false fun t : V × D × PyData => t.2.2) fun a _ b _ => ?_).symm
              simp only [PySem.W.dataLe, PySem.W.sortLe, hfg]
            rw [zip_map2, sorts (fun t => (t.2.1, t.2.2)) Prod.snd (fun _ => rfl), List.map_map] at h
            refine ⟨a, ts.map fun t => (t.1, t.2.2), rfl, by rw [List.map_map]; exact hq, fun b hb => ?_, ?_, ?_, fun b hb => ?_, ?_⟩
            · obtain ⟨t, ht, rfl⟩ := List.mem_map.mp hb
              exact (h4 t ht).2
            · rw [List.map_map]; exact alike_of hc.1
            · rw [List.map_map]; exact sortable_of hc.2.1
            · obtain ⟨t, ht, rfl⟩ := List.mem_map.mp hb
              exact of_decide_eq_true (List.all_eq_true.mp hc.2.2 _ (List.mem_map.mpr ⟨t, ht, rfl⟩))
            · rw [sorts (fun t => (t.1, t.2.2)) Prod.snd (fun _ => rfl), List.map_map]
              exact (p.newL h m (repL_map (ts := ts.mergeSort (PySem.W.dataLe false fun t => t.2.2)) fun t ht => (h4 t (List.mem_mergeSort.mp ht)).1)).2
          · cases e'
        · cases e'
    · cases h
  · cases h

/-! ### methods of built-ins -/
def tyD (M : Mem) : D → Option String
  | .str _ => some "str"
  | .int _ => some "int"
  | .fls _ => some "list"
  | .ref l => match M[l]? with
    | some (.lst _) => some "list"
    | some (.dK _) => some "dict"
    | some (.dT _) => some "dict"
    | _ => none
  | _ => none
theorem tyD_of {c : Ctx} {H : Hp} {as : List Addr} {M : Mem} {v : V} {d : D} {T : String} (m : MemR c.K c.mg H as M) (r : Rep c.K H as v d) (h : tyD M d = some T) : tyV c.K T v H := by
  cases r with
  | str x => cases h; rfl
  | int x => cases h; rfl
  | @fls a vs ds h1 h2 => cases h; exact .inl ⟨rfl, vs, h1.sq⟩
  | @ref a l h1 =>
    have h' : (match M[l]? with
      | some (.lst _) => some "list"
      | some (.dK _) => some "dict"
      | some (.dT _) => some "dict"
      | _ => none) = some T := h
    split at h'
    · rename_i e
      cases h'
      obtain ⟨vs, e2, _⟩ := m.ob _ _ _ h1 e
      exact .inl ⟨rfl, vs, SqL.of e2⟩
    · rename_i e
      cases h'
      obtain ⟨vs, e2, _⟩ := m.ob _ _ _ h1 e
      exact .inr (.inr (.inl ⟨rfl, .inl ⟨vs, e2⟩⟩))
    · rename_i e
      cases h'
      obtain ⟨vs, e2, _⟩ := m.ob _ _ _ h1 e
      exact .inr (.inr (.inl ⟨rfl, .inr ⟨vs, e2⟩⟩))
    · cases h'
  | _ => cases h
def SatM (c : Ctx) (r : V → List V → Hp → VK → Prop) (g : D → List D → Mem → Option (D × Mem)) : Prop := ∀ (H : Hp) (as : List Addr) (M : Mem) (x : V) (d : D) (xs : List V) (ds : List D) (z : D) (M' : Mem) (Q : VK), MemR c.K c.mg H as M → Rep c.K H as x d → RepL c.K H as xs ds → g d ds M = some (z, M') → Post c (rD c) H as M' (.ok z) Q → r x xs H Q
def eMeth (T : String) (g : D → List D → Mem → Option (D × Mem)) (o : Cp D) (t : Cp (List D)) : Cp D := bindC o fun x => fun ρ M => if tyD M x = some T then bindC t (fun xs => memC (g x xs)) ρ M else none
section
variable {X : Cx} {E : XK} {o e : Expr} {es : List Expr} {fo : Cp D} {ft : Cp (List D)} {name : Str} {apos cpos : Pos} {T id : String} {r : V → List V → Hp → VK → Prop} {g : D → List D → Mem → Option (D × Mem)}
theorem d_meth (pa : PlainAttrs T) (slot : Slot T name id) (hty : typeOf (.builtin id) = pure (.type "method_descriptor")) (hm : MtR X id r) (hg : SatM (cX X E) r g) (ho : PE X o (tD (cX X E) fo)) (ha : PA X (e :: es) (tA (cX X E) ft))
    (hbase : attributeBase o name X.env (eval o X.env) = eval o X.env := by rfl)
    (hfew : ((backTo cpos (starEach (e :: es) X.env)).all (fun x => !x.1) && (backToKw cpos (keywordEach [] X.env)).all (fun x => x.1.isSome)
      && decide ((e :: es).length + ([] : List Keyword).length + (if ([] : List Keyword).isEmpty then 0 else 1) < 30)) = true := by rfl)
    (hline : (apos.endLine == cpos.line) = true := by rfl) (hs : starEach (e :: es) X.env = (false, eval e X.env) :: starEach es X.env := by rfl) (hplain : (backTo cpos (starEach es X.env)).any (·.1) = false := by rfl) :
    PE X (.Call (.Attribute o name apos) (e :: es) [] cpos) (tD (cX X E) (eMeth T g fo ft)) := (pe_bm pa slot hty hm ho ha hbase hfew hline hs hplain).imp fun σ H Q ⟨as, M, ρ, w, M', hs, hm, hf, hp⟩ =>
  run_bind hs hm hf hp fun as1 v H1 d M1 e1 s1 m1 r1 f1 p1 => by
    replace f1 : (if tyD M1 d = some T then bindC ft (fun xs => memC (g d xs)) ρ M1 else none) = some (w, M') := f1
    split at f1
    · rename_i ht
      exact ⟨tyD_of m1 r1 ht, run_bind s1 m1 f1 p1 fun as2 vs H2 ds M2 e2 s2 m2 r2 f2 p2 => by
        obtain ⟨z, rfl, hz⟩ := run_mem f2
        exact hg H2 as2 M2 v d vs ds z M' Q m2 (r1.up e2) r2 hz p2⟩
    · cases f1
theorem d_meth0 (pa : PlainAttrs T) (slot : Slot T name id) (hty : typeOf (.builtin id) = pure (.type "method_descriptor")) (hm : MtR X id r) (hg : SatM (cX X E) r g) (ho : PE X o (tD (cX X E) fo))
    (hbase : attributeBase o name X.env (eval o X.env) = eval o X.env := by rfl) (hline : (apos.endLine == cpos.line) = true := by rfl) :
    PE X (.Call (.Attribute o name apos) [] [] cpos) (tD (cX X E) (eMeth T g fo aNil)) := (pe_bm0 pa slot hty hm ho hbase hline).imp fun σ H Q ⟨as, M, ρ, w, M', hs, hm, hf, hp⟩ =>
  run_bind hs hm hf hp fun as1 v H1 d M1 e1 s1 m1 r1 f1 p1 => by
    replace f1 : (if tyD M1 d = some T then bindC aNil (fun xs => memC (g d xs)) ρ M1 else none) = some (w, M') := f1
    split at f1
    · rename_i ht
      obtain ⟨z, rfl, hz⟩ := run_mem (g := g d []) (ρ := ρ) f1
      exact ⟨tyD_of m1 r1 ht, hg H1 as1 M1 v d [] [] z M' Q m1 r1 .nil hz p1⟩
    · cases f1
end
def mAppend (x : D) (ds : List D) (M : Mem) : Option (D × Mem) := match x, ds with
  | .ref l, [y] => match M[l]? with
    | some (.lst xs) => if xs.length < sizeLine then some (.non, M.set l (.lst (xs ++ [y]))) else none
    | _ => none
  | _, _ => none
theorem MemR.setL {c : Ctx} {H : Hp} {as : List Addr} {M : Mem} {l : Nat} {a : Addr} {w : MO} {vs : List V} {ds : List D} (m : MemR c.K c.mg H as M) (ha : as[l]? = some a) (hw : M[l]? = some w) (r : RepL c.K H as vs ds) : MemR c.K c.mg (upd H a (.lst vs)) as (M.set l (.lst ds)) :=
  m.set ha hw ⟨vs, upd_same, r.up (m.ext ha hw)⟩
theorem Post.setL {c : Ctx} {H : Hp} {as : List Addr} {M : Mem} {l : Nat} {a : Addr} {w : MO} {vs : List V} {ds : List D} {z : D} {u : V} {Q : VK} (p : Post c (rD c) H as (M.set l (.lst ds)) (.ok z) Q) (m : MemR c.K c.mg H as M) (ha : as[l]? = some a) (hw : M[l]? = some w) (r : RepL c.K H as vs ds) (rz : Rep c.K H as u z) : Q u (upd H a (.lst vs)) :=
  p as _ _ (m.ext ha hw) (m.setL ha hw r) (rz.up (m.ext ha hw))
theorem sat_append {c : Ctx} : SatM c rAppend mAppend := fun H as M x d xs ds z M' Q m rx rs h p => by
  unfold mAppend at h
  split at h
  · rename_i l y
    split at h
    · rename_i ys e
      split at h
      · rename_i hl
        cases h
        obtain ⟨u, rfl, r⟩ := rs.one
        cases rx with
        | @ref a _ h1 =>
          obtain ⟨vs, e2, r2⟩ := m.ob _ _ _ h1 e
          exact ⟨a, vs, u, rfl, rfl, e2, by rw [r2.length]; exact hl, p.setL m h1 e (r2.append (.cons r .nil)) .non⟩
      · cases h
    · cases h
  · cases h
def mExtend (x : D) (ds : List D) (M : Mem) : Option (D × Mem) := match x, ds with
  | .ref l, [.ref k] => match M[l]?, M[k]? with
    | some (.lst xs), some (.lst ys) => if xs.length + ys.length ≤ sizeLine then some (.non, M.set l (.lst (xs ++ ys))) else none
    | _, _ => none
  | _, _ => none
theorem sat_extend {c : Ctx} : SatM c rExtend mExtend := fun H as M x d xs ds z M' Q m rx rs h p => by
  unfold mExtend at h
  split at h
  · rename_i l k
    split at h
    · rename_i ys zs e e'
      split at h
      · rename_i hl
        cases h
        obtain ⟨u, rfl, r⟩ := rs.one
        cases rx with
        | @ref a _ h1 =>
          cases r with
          | @ref b _ h2 =>
            obtain ⟨vs, e2, r2⟩ := m.ob _ _ _ h1 e
            obtain ⟨ws, e3, r3⟩ := m.ob _ _ _ h2 e'
            exact ⟨a, b, vs, ws, rfl, rfl, e2, e3, by rw [r2.length, r3.length]; exact hl, p.setL m h1 e (r2.append r3) .non⟩
      · cases h
    · cases h
  · cases h
def mPop (x : D) (ds : List D) (M : Mem) : Option (D × Mem) := match x, ds with
  | .ref l, [] => match M[l]? with
    | some (.lst xs) => match xs[xs.length - 1]? with
      | some y => some (y, M.set l (.lst xs.dropLast))
      | none => none
    | _ => none
  | .ref l, [.int i] => match M[l]? with
    | some (.lst xs) => if -(2 ^ 63) ≤ i ∧ i < 2 ^ 63 then (match seqIndex? i xs.length with
      | some k => (match xs[k]? with
        | some y => some (y, M.set l (.lst (xs.eraseIdx k)))
        | none => none)
      | none => none) else none
    | _ => none
  | _, _ => none
abbrev rPopA : V → List V → Hp → VK → Prop := fun x xs H Q => rPop x xs H Q ∨ rPopAt x xs H Q
theorem mt_popA {X : Cx} : MtM X "list.pop" rPopA := fun pins s σ H x vs v us Q I rx rv h => by
  rcases h with h | h
  · exact mt_pop pins s σ H x vs v us Q I rx rv h
  · exact mt_popAt pins s σ H x vs v us Q I rx rv h
theorem sat_pop {c : Ctx} : SatM c rPopA mPop := fun H as M x d xs ds z M' Q m rx rs h p => by
  unfold mPop at h
  split at h
  · rename_i l
    split at h
    · rename_i ys e
      split at h
      · rename_i y ey
        cases h
        cases rs
        cases rx with
        | @ref a _ h1 =>
          obtain ⟨vs, e2, r2⟩ := m.ob _ _ _ h1 e
          obtain ⟨u, e3, r3⟩ := r2.get ey
          exact .inl ⟨a, vs, u, rfl, rfl, e2, by rw [r2.length]; exact e3, p.setL m h1 e r2.dropLast r3⟩
      · cases h
    · cases h
  · rename_i l i
    split at h
    · rename_i ys e
      split at h
      · rename_i hi
        split at h
        · rename_i k ek
          split at h
          · rename_i y ey
            cases h
            obtain ⟨u, rfl, r⟩ := rs.one
            cases r
            cases rx with
            | @ref a _ h1 =>
              obtain ⟨vs, e2, r2⟩ := m.ob _ _ _ h1 e
              obtain ⟨u, e3, r3⟩ := r2.get ey
              exact .inr ⟨a, vs, i, k, u, rfl, rfl, e2, hi.1, hi.2, by rw [r2.length]; exact ek, e3, p.setL m h1 e (r2.eraseIdx k) r3⟩
          · cases h
        · cases h
      · cases h
    · cases h
  · cases h
def mJoin (x : D) (ds : List D) (M : Mem) : Option (D × Mem) := match x, ds with
  | .str a, [d] => match (seqD M d).bind strsD with
    | some ys => if (ys.map (·.length)).sum + ys.length * a.length ≤ 16777216 then some (.str (Txt.join a ys), M) else none
    | none => none
  | _, _ => none
theorem sat_join {c : Ctx} : SatM c (fun x xs H Q => ∃ a p, ∃ ys : List Str, x = .str a ∧ xs = [.ref p] ∧ (SqL c.K H p (ys.map V.str) ∨ SqT c.K H p (ys.map V.str)) ∧
    (ys.map (·.length)).sum + ys.length * a.length ≤ 16777216 ∧ Q (.str (Txt.join a ys)) H) mJoin := fun H as M x d xs ds z M' Q m rx rs h p => by
  unfold mJoin at h
  split at h
  · rename_i a d
    split at h
    · rename_i ys e
      split at h
      · rename_i hl
        cases h
        obtain ⟨u, rfl, r⟩ := rs.one
        cases rx
        cases e1 : seqD M d with
        | none => rw [e1] at e; cases e
        | some es =>
          rw [e1] at e
          obtain ⟨b, vs, rfl, hq, rl⟩ := seqD_of m r e1
          rw [strsD_of rl e] at hq
          exact ⟨a, b, ys, rfl, rfl, hq, hl, p.ok m (.str _)⟩
      · cases h
    · cases h
  · cases h

/-! ### what loops walk -/
def lstIs (l : Nat) (xs : List D) (M : Mem) : Bool := match M[l]? with
  | some (.lst ys) => decide (ys = xs)
  | _ => false
theorem lstIs_eq {l : Nat} {xs : List D} {M : Mem} : lstIs l xs M = true ↔ M[l]? = some (.lst xs) := by
  unfold lstIs
  split
  · rename_i ys e
    rw [e]
    simp
  · rename_i h
    constructor
    · intro z; cases z
    · intro z; exact (h _ z).elim
def itSeq (d : D) (M : Mem) : Option Its := match d with
  | .tup xs => some (xs, fun _ => true)
  | .fls xs => some (xs, fun _ => true)
  | .ref l => match M[l]? with
    | some (.lst xs) => some (xs, lstIs l xs)
    | _ => none
  | _ => none
def isTup : D → Bool
  | .tup _ => true
  | _ => false
/-- what is walked stands in its turns -/
theorem itSeq_of {c : Ctx} {H : Hp} {as : List Addr} {M : Mem} {v : V} {d : D} {p : Its} (m : MemR c.K c.mg H as M) (r : Rep c.K H as v d) (h : itSeq d M = some p) : ∃ a vs, v = .ref a ∧
    ((isTup d = true ∧ SqT c.K H a vs ∧ ∀ as' M' H', Ext H H' as as' → MemR c.K c.mg H' as' M' → p.2 M' = true → ∃ vs, SqT c.K H' a vs ∧ RepL c.K H' as' vs p.1) ∨
     (isTup d = false ∧ SqL c.K H a vs ∧ ∀ as' M' H', Ext H H' as as' → MemR c.K c.mg H' as' M' → p.2 M' = true → ∃ vs, SqL c.K H' a vs ∧ RepL c.K H' as' vs p.1)) := by
  cases r with
  | @tup a vs ds h1 h2 =>
    cases h
    exact ⟨a, vs, rfl, .inl ⟨rfl, h1, fun as' M' H' e m' _ => ⟨vs, e.sqT h1, h2.up e⟩⟩⟩
  | @fls a vs ds h1 h2 =>
    cases h
    exact ⟨a, vs, rfl, .inr ⟨rfl, h1.sq, fun as' M' H' e m' _ => ⟨vs, (e.stL h1).sq, h2.up e⟩⟩⟩
  | @ref a l h1 =>
    have h' : (match M[l]? with
      | some (.lst xs) => some (xs, lstIs l xs)
      | _ => none) = some p := h
    split at h'
    · rename_i xs e
      cases h'
      obtain ⟨vs, e2, r2⟩ := m.ob _ _ _ h1 e
      refine ⟨a, vs, rfl, .inr ⟨rfl, SqL.of e2, fun as' M' H' ex m' hc => ?_⟩⟩
      obtain ⟨ws, e3, r3⟩ := m'.ob _ _ _ (ex.get h1) (lstIs_eq.mp hc)
      exact ⟨ws, SqL.of e3, r3⟩
    · cases h'
  | _ => cases h
def iSeq (e : Cp D) : Cp Its := bindC e fun d => fun _ M => match itSeq d M with
  | some p => some (.ok p, M)
  | none => none
section
variable {X : Cx} {E : XK} {tg e : Expr} {fe : Cp D} {ft : Cp (List D)} {p pos : Pos}
theorem itl_of {c : Ctx} {H : Hp} {as : List Addr} {a : Addr} {q : Its} (h : ∀ as' M' H', Ext H H' as as' → MemR c.K c.mg H' as' M' → q.2 M' = true → ∃ vs, SqL c.K H' a vs ∧ RepL c.K H' as' vs q.1) : ItR c H as (Itl c.K a) q := fun i as' M' H' e m hc => by
  obtain ⟨vs, hq, rl⟩ := h as' M' H' e m hc
  refine ⟨fun hi => ⟨vs, hq, by rw [rl.length]; exact Nat.le_of_eq hi⟩, fun d hd => ?_⟩
  obtain ⟨v, e1, r1⟩ := rl.get hd
  refine ⟨⟨vs, v, hq, e1⟩, fun x H2 hy => ?_⟩
  obtain ⟨rfl, hx⟩ := hy
  have := (hx vs hq).symm.trans e1
  cases this
  exact ⟨Ext.refl, m, r1⟩
theorem itt_of {c : Ctx} {H : Hp} {as : List Addr} {a : Addr} {q : Its} (h : ∀ as' M' H', Ext H H' as as' → MemR c.K c.mg H' as' M' → q.2 M' = true → ∃ vs, SqT c.K H' a vs ∧ RepL c.K H' as' vs q.1) : ItR c H as (Itt c.K a) q := fun i as' M' H' e m hc => by
  obtain ⟨vs, hq, rl⟩ := h as' M' H' e m hc
  refine ⟨fun hi => ⟨vs, hq, by rw [rl.length]; exact Nat.le_of_eq hi⟩, fun d hd => ?_⟩
  obtain ⟨v, e1, r1⟩ := rl.get hd
  refine ⟨⟨vs, v, hq, e1⟩, fun x H2 hy => ?_⟩
  obtain ⟨rfl, hx⟩ := hy
  have := (hx vs hq).symm.trans e1
  cases this
  exact ⟨Ext.refl, m, r1⟩
theorem run_it {c : Ctx} {H : Hp} {as : List Addr} {M M' : Mem} {σ : L2.St} {ρ : En} {r : Except Exc Its} {R : It → Hp → Prop} {k : D → Mem → Option Its} (hs : SlotR c.K H as σ ρ) (hm : MemR c.K c.mg H as M) (hf : (bindC fe fun d => fun _ M => match k d M with
    | some p => some (.ok p, M)
    | none => none) ρ M = some (r, M')) (hp : Post c (ItR c) H as M' r R) : (∃ x, r = .error x ∧ ∀ Q : VK, tD c fe σ H Q) ∨ ∃ d q, fe ρ M = some (.ok d, M') ∧ k d M' = some q ∧ r = .ok q := by
  unfold bindC at hf
  split at hf
  · rename_i d M1 e1
    dsimp only at hf
    split at hf
    · rename_i q eq
      cases hf
      exact .inr ⟨d, q, e1, eq, rfl⟩
    · cases hf
  · rename_i x M1 e1
    cases hf
    exact .inl ⟨x, rfl, fun Q => ⟨as, M, ρ, .error x, M', hs, hm, e1, hp⟩⟩
  · cases hf
theorem di_seq (he : PE X e (tD (cX X E) fe)) : PI X tg e (tI (cX X E) (iSeq fe)) := by
  refine ⟨fun pins s σ H R I h => ?_⟩
  obtain ⟨as, M, ρ, r, M', hs, hm, hf, hp⟩ := h
  rcases run_it hs hm hf hp with ⟨x, rfl, q⟩ | ⟨d, q, e1, eq, rfl⟩
  · exact (pi_list (tg := tg) he).run pins s σ H R I (q _)
  · cases hd : isTup d with
    | true =>
      refine (pi_tup (tg := tg) he).run pins s σ H R I ⟨as, M, ρ, .ok d, M', hs, hm, e1, fun as' v H' ex m r => ?_⟩
      obtain ⟨a, vs, rfl, h | h⟩ := itSeq_of m r eq
      · exact ⟨a, rfl, ⟨vs, h.2.1⟩, hp as' _ H' ex m (itt_of (c := cX X E) h.2.2)⟩
      · rw [hd] at h; exact absurd h.1 (by decide)
    | false =>
      refine (pi_list (tg := tg) he).run pins s σ H R I ⟨as, M, ρ, .ok d, M', hs, hm, e1, fun as' v H' ex m r => ?_⟩
      obtain ⟨a, vs, rfl, h | h⟩ := itSeq_of m r eq
      · rw [hd] at h; exact absurd h.1 (by decide)
      · exact ⟨a, rfl, ⟨vs, h.2.1⟩, hp as' _ H' ex m (itl_of (c := cX X E) h.2.2)⟩
/-! range -/
def upto (lo : Int) (n : Nat) : List D := (List.range n).map fun (i : Nat) => .int (lo + (i : Nat))
def rng1 : List D → Option Its
  | [.int j] => if -(2 ^ 62) ≤ j ∧ j < 2 ^ 62 then some (upto 0 j.toNat, fun _ => true) else none
  | _ => none
def rng2 : List D → Option Its
  | [.int i, .int j] => if -(2 ^ 62) ≤ i ∧ i < 2 ^ 62 ∧ -(2 ^ 62) ≤ j ∧ j < 2 ^ 62 then some (upto i (j - i).toNat, fun _ => true) else none
  | _ => none
def iOf (t : Cp (List D)) (g : List D → Mem → Option Its) : Cp Its := bindC t fun ds => fun _ M => match g ds M with
  | some p => some (.ok p, M)
  | none => none
abbrev iRange1 (t : Cp (List D)) : Cp Its := iOf t fun ds _ => rng1 ds
abbrev iRange2 (t : Cp (List D)) : Cp Its := iOf t fun ds _ => rng2 ds
theorem run_iOf {c : Ctx} {H : Hp} {as : List Addr} {M M' : Mem} {σ : L2.St} {ρ : En} {r : Except Exc Its} {R : It → Hp → Prop} {g : List D → Mem → Option Its} {P : List V → Hp → Prop} (hs : SlotR c.K H as σ ρ) (hm : MemR c.K c.mg H as M) (hf : iOf ft g ρ M = some (r, M')) (hp : Post c (ItR c) H as M' r R)
    (hP : ∀ as1 vs H1 ds q, MemR c.K c.mg H1 as1 M' → RepL c.K H1 as1 vs ds → g ds M' = some q → (∀ J, ItR c H1 as1 J q → R J H1) → P vs H1) : tA c ft σ H P := by
  unfold iOf bindC at hf
  split at hf
  · rename_i ds M1 e1
    have hf' : (match g ds M1 with
      | some p => some (Except.ok (ε := Exc) p, M1)
      | none => none) = some (r, M') := hf
    split at hf'
    · rename_i q eq
      cases hf'
      exact ⟨as, M, ρ, .ok ds, M', hs, hm, e1, fun as' vs H' ex m rr => hP as' vs H' ds q m rr eq fun J hJ => hp as' J H' ex m hJ⟩
    · cases hf'
  · rename_i x M1 e1
    cases hf
    exact ⟨as, M, ρ, .error x, M', hs, hm, e1, hp⟩
  · cases hf
theorem upto_len (lo : Int) (n : Nat) : (upto lo n).length = n := by simp [upto]
theorem upto_get {lo : Int} {n i : Nat} {d : D} (h : (upto lo n)[i]? = some d) : i < n ∧ d = .int (lo + (i : Nat)) := by
  unfold upto at h
  rw [List.getElem?_map] at h
  by_cases hi : i < n
  · rw [List.getElem?_range hi] at h
    cases h
    exact ⟨hi, rfl⟩
  · rw [List.getElem?_eq_none (by simp; omega)] at h
    cases h
theorem itr_of {c : Ctx} {H : Hp} {as : List Addr} {lo : Int} {n : Nat} : ItR c H as (Itr lo n) (upto lo n, fun _ => true) := fun i as' M' H' e m hc => by
  refine ⟨fun hi => by rw [upto_len] at hi; exact Nat.le_of_eq hi, fun d hd => ?_⟩
  obtain ⟨hi, rfl⟩ := upto_get hd
  refine ⟨hi, fun x H2 hy => ?_⟩
  obtain ⟨rfl, rfl⟩ := hy
  exact ⟨Ext.refl, m, .int _⟩
theorem di_range1 {a : Expr} (hm : X.mg "range" = none) (ha : PA X [a] (tA (cX X E) ft)) (hg : Gl X "range" := by rfl) (hs : starEach [a] X.env = [(false, eval a X.env)] := by rfl) : PI X tg (.Call (.Name "range" p) [a] [] pos) (tI (cX X E) (iRange1 ft)) := by
  refine ⟨fun pins s σ H R I ⟨as, M, ρ, r, M', hs', hm', hf, hp⟩ => (pi_range1 (tg := tg) hg hm ha hs).run pins s σ H R I (run_iOf hs' hm' hf hp fun as1 vs H1 ds q m rr e hR => ?_)⟩
  have e' : rng1 ds = some q := e
  unfold rng1 at e'
  split at e'
  · split at e'
    · rename_i hj
      cases e'
      obtain ⟨v, rfl, r⟩ := RepL.one rr
      cases r
      exact ⟨_, rfl, hj.1, hj.2, hR _ itr_of⟩
    · cases e'
  · cases e'
theorem di_range2 {a b : Expr} (hm : X.mg "range" = none) (ha : PA X [a, b] (tA (cX X E) ft)) (hg : Gl X "range" := by rfl) (hs : starEach [a, b] X.env = [(false, eval a X.env), (false, eval b X.env)] := by rfl) (hs2 : starEach [b] X.env = [(false, eval b X.env)] := by rfl) : PI X tg (.Call (.Name "range" p) [a, b] [] pos) (tI (cX X E) (iRange2 ft)) := by
  refine ⟨fun pins s σ H R I ⟨as, M, ρ, r, M', hs', hm', hf, hp⟩ => (pi_range2 (tg := tg) hg hm ha hs hs2).run pins s σ H R I (run_iOf hs' hm' hf hp fun as1 vs H1 ds q m rr e hR => ?_)⟩
  have e' : rng2 ds = some q := e
  unfold rng2 at e'
  split at e'
  · split at e'
    · rename_i hj
      cases e'
      obtain ⟨v, u, rfl, r, r2⟩ := RepL.two rr
      cases r
      cases r2
      exact ⟨_, _, rfl, hj, hR _ itr_of⟩
    · cases e'
  · cases e'
end
end DL

namespace DL
open PySem PySem.Spec PyProof.Rows L2

/-! ### enumerate of a tuple -/
set_option maxHeartbeats 1000000 in
theorem enum_newB {v : Value} {o : Obj} {HH : Heap → Prop} (B : Begins v o HH) : Meets (Builtin.«enumerate.__new__» ⟨[.type "enumerate", v], []⟩) (fun _ R s => HH s.heap ∧
      R (.ok (.ret (.ref (s.heap.push o).objs.size))) { s with heap := (s.heap.push o).push { cls := .type "enumerate", data := .fields #[.none, .bool false, .ref s.heap.objs.size, rawInt 0, .none, .none] } }) :=
  .of_wp fun prog w A R s h => by
    obtain ⟨hp, g, d, tk, os⟩ := s
    obtain ⟨h1, h⟩ := h
    have hsub := sub_enumerate
    have q1 : ∀ {A' : Around} {E : Value → Shared → Prop} {Q : Value → Shared → Prop}, Q (.ref hp.objs.size) ⟨hp.push o, g, d, tk, os⟩ → wpAny (model prog w) A' (pyIter v) Q E ⟨hp, g, d, tk, os⟩ :=
      fun q => B.iter prog w _ _ ⟨hp, g, d, tk, os⟩ _ h1 q
    wp_walk using q1
    refine wpAny_stack_any fun st => wpAny_pure ?_
    split
    · rename_i c _ _ _ _ _
      cases (c == Value.type "enumerate")
      · wp_walk using q1
        exact ⟨_, rfl, h⟩
      · wp_walk using q1
        exact ⟨_, rfl, h⟩
    · wp_walk using q1
      exact ⟨_, rfl, h⟩
theorem enum_tup {prog : Program} {w : World} {A : Around} {E : Value → Shared → Prop} {s : Shared} {t : Addr} {items : Array Value} {Q : Value → Shared → Prop} (ht : s.heap.IsTuple t items)
    (h : ∀ h', IsEnum h' (s.heap.objs.size + 1) s.heap.objs.size 0 .none → h'.IsTupleIter s.heap.objs.size t 0 → h'.objs.size = s.heap.objs.size + 2 → (∀ b o, s.heap.get? b = some o → h'.get? b = some o) → Q (.ref (s.heap.objs.size + 1)) { s with heap := h' }) :
    wpAny (model prog w) A (call (.type "enumerate") [.ref t]) Q E s := by
  have B := begins_tuple t items
  refine callType_new F.called_enumerate (by decide) (F.typeCall_enumerate_1 _) (F.newCall_enumerate_1 _) (fun obj => F.args_object_init_2 obj _) F.entry_enumerate_new (enum_newB B) ⟨ht, ?_⟩
  have hz : (s.heap.push { cls := .type "tuple_iterator", data := .fields #[.ref t, .int 0 0] }).objs.size = s.heap.objs.size + 1 := Heap.size_push ..
  show _ ∧ _
  rw [hz]
  have he : IsEnum ((s.heap.push { cls := .type "tuple_iterator", data := .fields #[.ref t, .int 0 0] }).push { cls := .type "enumerate", data := .fields #[.none, .bool false, .ref s.heap.objs.size, rawInt 0, .none, .none] }) (s.heap.objs.size + 1) s.heap.objs.size 0 .none := by
    have q := Heap.get?_push_size (s.heap.push { cls := .type "tuple_iterator", data := .fields #[.ref t, .int 0 0] }) (o := { cls := .type "enumerate", data := .fields #[.none, .bool false, .ref s.heap.objs.size, rawInt 0, .none, .none] }) rfl
    rw [hz] at q
    exact q
  exact ⟨⟨_, he, rfl⟩, h _ he ⟨_, Heap.get?_push_of_some _ (Heap.get?_push_size _ rfl), rfl, rfl⟩ (by rw [Heap.size_push, hz]) fun b o x => Heap.get?_push_of_some _ (Heap.get?_push_of_some _ x)⟩
/-- a tuple's items, each in a new pair -/
def ItE (K : PySem.W.Frag) (a : Addr) (n : Nat) : It :=
  ⟨fun i H => i < n ∧ ∃ (xs : List V) (x : V), SqT K H a xs ∧ xs.length = n ∧ xs[i]? = some x, fun i H v H' => ∃ T x, v = .ref T ∧ H T = none ∧ H' = upd H T (.tup [.int (i : Nat), x]) ∧ ∀ xs, SqT K H a xs → xs[i]? = some x, fun i H => i = n ∧ ∃ xs : List V, SqT K H a xs ∧ xs.length = n⟩
theorem tup_inj {X : Cx} {pins : List (Addr × Obj)} {σ : L2.St} {H : Hp} {s : Shared} {a : Addr} {xs ys : List V} (I : Inv X pins σ H s) (h : SqT X.K H a xs) (h' : SqT X.K H a ys) : xs = ys := by
  obtain ⟨us, r1, ⟨o1, e1, _, n1, d1⟩, _⟩ := I.tuple h
  obtain ⟨ws, r2, ⟨o2, e2, _, n2, d2⟩, _⟩ := I.tuple h'
  rw [e1] at e2
  cases e2
  rw [d1] at d2
  cases d2
  exact r1.inj r2
theorem turn_enumT {P : Program} {w : World} {K : PySem.W.Frag} {elts : List Expr} {kk : Nat} {tpos : Pos} (a e it : Addr) (n : Nat) :
    Turn P w K (.Tuple elts kk tpos) (ItE K a n) [e, it] e (fun i h => (∃ old, IsEnum h e it ((i : Nat) : Int) old) ∧ h.IsTupleIter it a i ∧ e ≠ it ∧ e ≠ a ∧ a ≠ it) where
  mem := by simp
  obj := fun i h st b hb => by
    obtain ⟨⟨old, he⟩, ⟨o, ho, hc, hd⟩, _⟩ := st
    rcases List.mem_cons.mp hb with z | hb
    · rw [z]; exact ⟨_, he, fun v q => nomatch q⟩
    · rw [List.mem_singleton.mp hb]; exact ⟨o, ho, fun v q => by rw [hd] at q; cases q⟩
  keep := fun i h h' st k => by
    obtain ⟨⟨old, he⟩, hi, n1, n2, n3⟩ := st
    exact ⟨⟨old, k e (by simp) _ he⟩, hi.at fun o q => k it (by simp) o q, n1, n2, n3⟩
  item := by
    intro X hP hw hK hc i pins s σ H E I hf st hg
    subst hP hw hK
    obtain ⟨⟨old, he⟩, hit, hne, hea, hai⟩ := st
    obtain ⟨hin, xs, x, hq, hn, hx⟩ := hg
    obtain ⟨its, rv, p, hz⟩ := I.tuple hq
    obtain ⟨u, hu, ru⟩ := rv.get hx
    have hel : e < s.heap.objs.size := Heap.lt_size he
    have hil : it < s.heap.objs.size := by obtain ⟨_, q, _⟩ := hit; exact Heap.lt_size q
    have hsz : its.toArray.size = n := by rw [List.size_toArray, ← rv.length, hn]
    refine wpAny_pyNext_enum_itemC (Draws.tuple (A := X.A.in1) (show X.A.handled = none from I.ok.hd hc) it a hai its.toArray) he ⟨hit, p⟩ (by rw [hsz]; exact hin) hne (by simp [hne, hea]) fun y h' tk hy ho hst hT hs2 hk => ?_
    have ey : y = u := by
      have q : its[i]? = some y := by simpa using hy
      rw [hu] at q
      exact (Option.some.inj q).symm
    subst ey
    refine ⟨_, rfl, wpAny_letOwnedTupleGo_enum (s := { s with heap := h', toks := tk + 1 }) ho fun h'' he' sb => ?_⟩
    have hT2 : h''.get? s.heap.objs.size = some { cls := .type "tuple", data := .seq #[.int i tk, y] } := (sb.2 _ (Nat.ne_of_gt hel)).trans hT
    have new : ObjOk X.prog X.w (upd H s.heap.objs.size (.tup [.int (i : Nat), x])) h'' s.heap.objs.size (.tup [.int (i : Nat), x]) :=
      ⟨by show 2 ≤ sizeLine; decide, [.int i tk, y], .cons ⟨_, rfl⟩ (.cons ru .nil), ⟨_, hT2, rfl, _, rfl⟩⟩
    have old' : ∀ b ob, b ∉ [e, it] → s.heap.get? b = some ob → h''.get? b = some ob := fun b ob hb q => by
      have h1 : b ≠ e := fun z => hb (by simp [z])
      have h2 : b ≠ it := fun z => hb (by simp [z])
      exact (sb.2 b h1).trans (hk b ob h1 h2 q)
    have I1 : Inv X pins σ (upd H s.heap.objs.size (.tup [.int (i : Nat), x])) { s with heap := h'', toks := tk + 1 } := I.turnedNew (ch := [e, it]) old' hf (Nat.le_refl _) new
    refine ⟨.ref s.heap.objs.size, _, I1, rfl, ⟨_, x, rfl, I.hok.fresh (Nat.le_refl _), rfl, fun ys hy' => by rw [tup_inj I hy' hq]; exact hx⟩, ⟨⟨y, ?_⟩, hst.1.at fun o q => (sb.2 it (Ne.symm hne)).trans q, hne, hea, hai⟩, fun b hb => ?_⟩
    · have e1 : ((i + 1 : Nat) : Int) = (i : Int) + 1 := by omega
      rw [e1]
      exact he'
    · have hb' : b ≠ s.heap.objs.size := by
        rcases List.mem_cons.mp hb with z | hb
        · rw [z]; exact Nat.ne_of_lt hel
        · rw [List.mem_singleton.mp hb]; exact Nat.ne_of_lt hil
      rw [upd_ne hb']
      exact (hf b hb).1
  done := by
    intro X hP hw hK hc i pins s σ H E I hf st hg
    subst hP hw hK
    obtain ⟨⟨old, he⟩, hit, hne, hea, hai⟩ := st
    obtain ⟨rfl, xs, hq, hn⟩ := hg
    obtain ⟨its, rv, p, hz⟩ := I.tuple hq
    obtain ⟨f0, f1, f2, f3, f4, f5⟩ := hf it (by simp)
    have hsz : its.toArray.size = i := by rw [List.size_toArray, ← rv.length, hn]
    refine wpAny_pyNext_enum_endD (Draws.tuple (A := X.A.in1) (show X.A.handled = none from I.ok.hd hc) it a hai its.toArray) he (by rw [hsz]; exact ⟨hit, p⟩) fun h' hx => ⟨rfl, I.turned (t' := s.toks) (fun b o hb q => hx b o hb q) f0 f1 f3 f4 f5⟩
  self := fun A i s Q E st h => by
    obtain ⟨⟨_, he⟩, _⟩ := st
    exact wpAny_pyIter_enum he h
def iEnumT (K : PySem.W.Frag) (ta : TA) : TI := fun σ H R => ta σ H fun vs H1 => ∃ a xs, vs = [.ref a] ∧ SqT K H1 a xs ∧ R (ItE K a xs.length) H1
theorem pi_enumT {X : Cx} {e : Expr} {ta : TA} {p pos tpos : Pos} {elts : List Expr} {kk : Nat} (hg : Gl X "enumerate") (hm : X.mg "enumerate" = none) (ha : PA X [e] ta) (hs : starEach [e] X.env = [(false, eval e X.env)] := by rfl) :
    PI X (.Tuple elts kk tpos) (.Call (.Name "enumerate" p) [e] [] pos) (iEnumT X.K ta) := by
  refine ⟨fun pins s σ H R I h => ?_⟩
  refine Call_ (ld_blt I hg hm boot_enumerate (PyProof.Rows.callWith_type1 (thn (ha.run pos pins s σ H _ I h) fun us s1 ⟨vs, H1, I1, r1, a, xs, ex, hq, q⟩ => ?_) hs rfl))
  subst ex
  rw [Vals.ref1 r1]
  obtain ⟨its, rv, p', hz⟩ := I1.tuple hq
  have hal : a < s1.heap.objs.size := by obtain ⟨_, z, _⟩ := p'; exact Heap.lt_size z
  refine enum_tup (show s1.heap.IsTuple a its.toArray from p') fun h' he hit hsz hk => wpAny_pyIter_enum he ?_
  have I2 : Inv X pins σ H1 { s1 with heap := h' } := I1.kept (t' := s1.toks) hk
  refine ⟨s1.heap.objs.size + 1, [s1.heap.objs.size + 1, s1.heap.objs.size], _, _, H1, rfl, I2, turn_enumT a (s1.heap.objs.size + 1) s1.heap.objs.size xs.length, ⟨⟨.none, he⟩, hit, Nat.succ_ne_self _, Nat.ne_of_gt (Nat.lt_succ_of_lt hal), Nat.ne_of_lt hal⟩, fun b hb => ?_, q⟩
  have hle : s1.heap.objs.size ≤ b := by
    rcases List.mem_cons.mp hb with z | hb
    · rw [z]; exact Nat.le_succ _
    · rw [List.mem_singleton.mp hb]; exact Nat.le_refl _
  exact I1.fpOk hle (I1.hok.fresh hle)

/-! ### enumerate, zip -/
def pairs (ds : List D) : List D := (List.range ds.length).zipWith (fun (i : Nat) d => D.tup [.int (i : Nat), d]) ds
theorem pairs_len (ds : List D) : (pairs ds).length = ds.length := by simp [pairs]
theorem pairs_get {ds : List D} {i : Nat} {x : D} (h : (pairs ds)[i]? = some x) : ∃ d, ds[i]? = some d ∧ x = .tup [.int (i : Nat), d] := by
  unfold pairs at h
  rw [List.getElem?_zipWith] at h
  cases e1 : (List.range ds.length)[i]? with
  | none => rw [e1] at h; cases h
  | some j =>
    cases e2 : ds[i]? with
    | none => rw [e1, e2] at h; cases h
    | some d =>
      rw [e1, e2] at h
      have hj : j = i := by
        have hi := (List.getElem?_eq_some_iff.mp e2).1
        rw [List.getElem?_range hi] at e1
        exact (Option.some.inj e1).symm
      subst hj
      exact ⟨d, rfl, (Option.some.inj h).symm⟩
def enumG (ds : List D) (M : Mem) : Option Its := match ds with
  | [d] => match itSeq d M with
    | some p => some (pairs p.1, p.2)
    | none => none
  | _ => none
abbrev iEnumD (t : Cp (List D)) : Cp Its := iOf t enumG
def zipG (ds : List D) (M : Mem) : Option Its := match ds with
  | [d, e] => if isTup d = isTup e then (match itSeq d M, itSeq e M with
    | some p, some q => some (p.1.zipWith (fun x y => D.tup [x, y]) q.1, fun M => p.2 M && q.2 M)
    | _, _ => none) else none
  | _ => none
abbrev iZipD (t : Cp (List D)) : Cp Its := iOf t zipG
/-- which of the two ways is taken -/
def firstTup (t : Cp (List D)) (ρ : En) (M : Mem) : Bool := match t ρ M with
  | some (.ok (d :: _), _) => isTup d
  | _ => false
section
variable {X : Cx} {E : XK} {e e2 : Expr} {ft : Cp (List D)} {p pos tpos : Pos} {elts : List Expr} {kk : Nat}
theorem run_iOf2 {c : Ctx} {H : Hp} {as : List Addr} {M M' : Mem} {σ : L2.St} {ρ : En} {r : Except Exc Its} {R : It → Hp → Prop} {g : List D → Mem → Option Its} {P : List V → Hp → Prop} (hs : SlotR c.K H as σ ρ) (hm : MemR c.K c.mg H as M) (hf : iOf ft g ρ M = some (r, M')) (hp : Post c (ItR c) H as M' r R)
    (hP : ∀ as1 vs H1 ds q, ft ρ M = some (.ok ds, M') → MemR c.K c.mg H1 as1 M' → RepL c.K H1 as1 vs ds → g ds M' = some q → (∀ J, ItR c H1 as1 J q → R J H1) → P vs H1) : tA c ft σ H P := by
  unfold iOf bindC at hf
  split at hf
  · rename_i ds M1 e1
    have hf' : (match g ds M1 with
      | some p => some (Except.ok (ε := Exc) p, M1)
      | none => none) = some (r, M') := hf
    split at hf'
    · rename_i q eq
      cases hf'
      exact ⟨as, M, ρ, .ok ds, M', hs, hm, e1, fun as' vs H' ex m rr => hP as' vs H' ds q e1 m rr eq fun J hJ => hp as' J H' ex m hJ⟩
    · cases hf'
  · rename_i x M1 e1
    cases hf
    exact ⟨as, M, ρ, .error x, M', hs, hm, e1, hp⟩
  · cases hf
theorem ite_of {c : Ctx} {H : Hp} {as : List Addr} {a : Addr} {q : Its} (h : ∀ as' M' H', Ext H H' as as' → MemR c.K c.mg H' as' M' → q.2 M' = true → ∃ vs, SqL c.K H' a vs ∧ RepL c.K H' as' vs q.1) : ItR c H as (Ite c.K a) (pairs q.1, q.2) := fun i as' M' H' e m hc => by
  obtain ⟨vs, hq, rl⟩ := h as' M' H' e m hc
  refine ⟨fun hi => ⟨vs, hq, by rw [rl.length, ← pairs_len]; exact Nat.le_of_eq hi⟩, fun d hd => ?_⟩
  obtain ⟨d', hd', rfl⟩ := pairs_get hd
  obtain ⟨v, e1, r1⟩ := rl.get hd'
  refine ⟨⟨vs, v, hq, e1⟩, fun x H2 hy => ?_⟩
  obtain ⟨T, y, rfl, hT, rfl, hx⟩ := hy
  have := (hx vs hq).symm.trans e1
  cases this
  exact ⟨Ext.new hT, m.new hT, Rep.newT (c := c) (.cons (.int _) (.cons r1 .nil)) hT⟩
theorem itE_of {c : Ctx} {H : Hp} {as : List Addr} {a : Addr} {vs : List V} {ds : List D} {chk : Mem → Bool} (hq : SqT c.K H a vs) (rl : RepL c.K H as vs ds) : ItR c H as (ItE c.K a vs.length) (pairs ds, chk) := fun i as' M' H' e m hc => by
  have hq' := e.sqT hq
  have rl' := rl.up e
  have hl := rl.length
  refine ⟨fun hi => ⟨by rw [← hi, pairs_len, hl], vs, hq', rfl⟩, fun d hd => ?_⟩
  · obtain ⟨d', hd', rfl⟩ := pairs_get hd
    obtain ⟨v, e1, r1⟩ := rl'.get hd'
    refine ⟨⟨(List.getElem?_eq_some_iff.mp e1).1, vs, v, hq', rfl, e1⟩, fun x H2 hy => ?_⟩
    obtain ⟨T, y, rfl, hT, rfl, hx⟩ := hy
    have := (hx vs hq').symm.trans e1
    cases this
    exact ⟨Ext.new hT, m.new hT, Rep.newT (c := c) (.cons (.int _) (.cons r1 .nil)) hT⟩
theorem di_enum (hm : X.mg "enumerate" = none) (ha : PA X [e] (tA (cX X E) ft)) (hg : Gl X "enumerate" := by rfl) (hs : starEach [e] X.env = [(false, eval e X.env)] := by rfl) : PI X (.Tuple elts kk tpos) (.Call (.Name "enumerate" p) [e] [] pos) (tI (cX X E) (iEnumD ft)) := by
  refine ⟨fun pins s σ H R I ⟨as, M, ρ, r, M', hs', hm', hf, hp⟩ => ?_⟩
  cases hd : firstTup ft ρ M with
  | true =>
    refine (pi_enumT hg hm ha hs).run pins s σ H R I (run_iOf2 hs' hm' hf hp fun as1 vs H1 ds q e1 m rr eg hR => ?_)
    unfold firstTup at hd
    rw [e1] at hd
    unfold enumG at eg
    split at eg
    · rename_i d
      split at eg
      · rename_i q' eq
        cases eg
        obtain ⟨v, rfl, r⟩ := rr.one
        cases r with
        | @tup a ws ds h1 h2 =>
          cases eq
          exact ⟨a, ws, rfl, h1, hR _ (itE_of h1 h2)⟩
        | _ => exact absurd hd (by intro z; cases z)
      · cases eg
    · cases eg
  | false =>
    refine (pi_enum hg hm ha hs).run pins s σ H R I (run_iOf2 hs' hm' hf hp fun as1 vs H1 ds q e1 m rr eg hR => ?_)
    unfold firstTup at hd
    rw [e1] at hd
    unfold enumG at eg
    split at eg
    · rename_i d
      split at eg
      · rename_i q' eq
        cases eg
        obtain ⟨v, rfl, r⟩ := rr.one
        obtain ⟨a, ws, rfl, h | h⟩ := itSeq_of m r eq
        · exact absurd (h.1.symm.trans hd) (by decide)
        · exact ⟨a, ws, rfl, h.2.1, hR _ (ite_of h.2.2)⟩
      · cases eg
    · cases eg
end
end DL

namespace DL
open PySem PySem.Spec PyProof.Rows L2

theorem _root_.L2.Room.u65 {k : Nat} {A : Around} (r : Room k A) : A.units + 65 < cLine := by have := r.un; omega
/-- a def of the text, where it stands -/
structure DefAt (K : PySem.W.Frag) (mg : Str → Option Value) (x qual : Str) (st : Stmt) (ps : List Str) : Prop where
  ex : ∃ f fd, Fun K x qual st f fd ∧ mg x = some (.ref f) ∧ L2.Binds K fd ps []
theorem DefAt.mk' {K : PySem.W.Frag} {h : Heap} {mg : Str → Option Value} {x qual : Str} {st : Stmt} {ps : List Str} {f1 : Addr} {od1 an1 : Option Addr} {sl1 : Array (Option Value)} {oc1 kV1 dc1 pm1 cd1 ct1 : Value} (X : K.In h) (G : h.Ns mainGlobals mg)
    (hb : ∀ (kV doc pm : Value) (an : Option Addr) (cdv ct : Value) (us : List Value), us.length = ps.length → bindArgs (PySem.W.fnOf x qual (defArgs st) (defBody st) (defScope st) .none kV doc pm an cdv ct) ⟨us, []⟩ = pure (ps.zip us))
    (a1 : PySem.W.nsIn K mainGlobals x = some (some (.ref f1))) (l1 : K.lookup f1 = some ⟨oc1, od1, .func (PySem.W.fnOf x qual (defArgs st) (defBody st) (defScope st) .none kV1 dc1 pm1 an1 cd1 ct1), sl1⟩) (c1 : PySem.W.codeIn K cd1 qual = true) (k1 : PySem.W.keepIn K (.ref f1) = true) : DefAt K mg x qual st ps := by
  have F := fun_mk (st := st) l1 c1 k1
  exact ⟨f1, _, F, PySem.W.mg_of X G a1, F.binds hb⟩
section
variable {P : Program} {w : World} {K : PySem.W.Frag} {mg : Str → Option Value} {base : Heap}
theorem DefAt.ok0 {x qual : Str} {st : Stmt} {N ps : List Str} {k n m : Nat} {body : Sm} (A : DefAt K mg x qual st ps) (S : FnScope N ps (defScope st)) (hn : ps.length = n) (hN : N.length = m)
    (hbody : ∀ (f : Addr) (cdv : Value) (A : Around) (outer : List Env) (s : Shared) (H : Hp) (E : XK), Room k (A.deeper (envOfC qual (defScope st) s.heap.objs.size f cdv)) →
      PSs (cxOf CX0 P w K mg base N qual (defScope st) f cdv A outer s H E).nox (defBody st) (tS ⟨K, mg, E0⟩ body)) : DefOk P w K mg base CX0 (k + 1) x n (fn0 (fnOf m n body)) := by
  obtain ⟨f, fd, F, hm, hb⟩ := A.ex
  exact ⟨⟨f, fd, ps, fn_ok0 F S hn hN (hbody f), hm, F.kp, hb⟩, fn0_len fnOf_len⟩
theorem DefAt.okX {x qual : Str} {st : Stmt} {N ps : List Str} {k n m : Nat} {body : Sm} (A : DefAt K mg x qual st ps) (S : FnScope N ps (defScope st)) (hn : ps.length = n) (hN : N.length = m)
    (hbody : ∀ (f : Addr) (cdv : Value) (A : Around) (outer : List Env) (s : Shared) (H : Hp) (E : XK), Room k (A.deeper (envOfC qual (defScope st) s.heap.objs.size f cdv)) →
      PSs (cxOf (L2.CX P w) P w K mg base N qual (defScope st) f cdv A outer s H E) (defBody st) (tS ⟨K, mg, E⟩ body)) : DefOk P w K mg base (L2.CX P w) (k + 1) x n (fnOf m n body) := by
  obtain ⟨f, fd, F, hm, hb⟩ := A.ex
  exact ⟨⟨f, fd, ps, fn_ok F S hn hN (hbody f), hm, F.kp, hb⟩, fnOf_len⟩
theorem DefOk.mono {CX : CXT} {j k n : Nat} {x : Str} {F : Fn} (D : DefOk P w K mg base CX j x n F) (h : j ≤ k) : DefOk P w K mg base CX k x n F := by
  obtain ⟨f, fd, ps, h1, h2⟩ := D.ex
  exact ⟨⟨f, fd, ps, h1.mono h, h2⟩, D.len⟩
end
/-- a constant of the module -/
def GlobK (K : PySem.W.Frag) (mg : Str → Option Value) (x : Str) (d : D) : Prop := ∃ v u, mg x = some u ∧ RelV v u ∧ ∀ (H : Hp) (as : List Addr), Rep K H as v d
theorem d_globK {X : Cx} {E : XK} {pos : Pos} {x : Str} {d : D} (h : GlobK X.K X.mg x d) (hg : Gl X x := by rfl) (hd : (x == ("__debug__" : Str)) = false := by decide) : PE X (.Name x pos) (tD (cX X E) (eC d)) := d_glob hg h hd
theorem GlobK.int {K : PySem.W.Frag} {h : Heap} {mg : Str → Option Value} {x : Str} {i : Int} {t : Tok} (X : K.In h) (G : h.Ns mainGlobals mg) (a : PySem.W.nsIn K mainGlobals x = some (some (.int i t))) : GlobK K mg x (.int i) :=
  ⟨.int i, _, PySem.W.mg_of X G a, ⟨_, rfl⟩, fun _ _ => .int i⟩
theorem GlobK.str {K : PySem.W.Frag} {h : Heap} {mg : Str → Option Value} {x : Str} {i : Str} {t : Tok} (X : K.In h) (G : h.Ns mainGlobals mg) (a : PySem.W.nsIn K mainGlobals x = some (some (.str i t))) : GlobK K mg x (.str i) :=
  ⟨.str i, _, PySem.W.mg_of X G a, ⟨_, rfl⟩, fun _ _ => .str i⟩

theorem blkI {N : List Str} {sc scope : Scope} {own : List (Str × Nat)} (h : blkC N sc scope own = true) : blkC N sc scope own = true := h
/-! ### == [], != [] -/
def cNil (neg : Bool) (x : D) (M : Mem) : Option (D × Mem) := match toPy M x with
  | some a => if SeqAt.shaped a = true then some (.bl (if neg = true then !PyData.eqv a (.list []) else PyData.eqv a (.list [])), M) else none
  | none => none
abbrev eEqNil (e : Cp D) : Cp D := eUn (cNil false) e
abbrev eNeNil (e : Cp D) : Cp D := eUn (cNil true) e
section
variable {X : Cx} {E : XK} {a : Expr} {fa : Cp D} {p pos : Pos}
theorem nil_of {c : Ctx} {H : Hp} {as : List Addr} {M : Mem} {v : V} {d : D} {q : PyData} {b : Addr} (m : MemR c.K c.mg H as M) (r : Rep c.K H as v d) (e : toPy M d = some q) (hb : H b = none) : Dp c.K (upd H b (.lst [])) v q ∧ Dp c.K (upd H b (.lst [])) (.ref b) (.list []) :=
  ⟨dp_of (m.new hb) _ _ _ _ (r.up (Ext.new hb)) e, .lst (SqL.of upd_same) .nil⟩
theorem t_eqNil {c : Ctx} {b : Bool} : ∀ σ H Q, tD c (eUn (cNil b) fa) σ H Q → tOp (if b = true then rNeD c.K else rEqD c.K) (tD c fa) (tLst tNil) σ H Q := fun σ H Q ⟨as, M, ρ, w, M', hs, hm, hf, hp⟩ =>
  run_bind hs hm hf hp fun as1 v H1 d M1 e1 s1 m1 r1 f1 p1 => by
    obtain ⟨z, rfl, hz⟩ := run_mem f1
    refine ⟨Nat.zero_le _, fun q hq => ?_⟩
    unfold cNil at hz
    split at hz
    · rename_i x ex
      split at hz
      · rename_i hsx
        cases hz
        obtain ⟨h1, h2⟩ := nil_of m1 r1 ex hq
        have fin : Q (.bl (if b = true then !PyData.eqv x (.list []) else PyData.eqv x (.list []))) (upd H1 q (.lst [])) := p1 as1 _ _ (Ext.new hq) (m1.new hq) (.bl _)
        cases b with
        | true => exact ⟨x, .list [], h1, h2, hsx, by decide, fin⟩
        | false => exact ⟨x, .list [], h1, h2, hsx, by decide, fin⟩
      · cases hz
    · cases hz
theorem d_eqNil (hu : X.A.units + 64 < cLine) (ha : PE X a (tD (cX X E) fa)) : PE X (.Compare a [.Eq] [.List [] p] pos) (tD (cX X E) (eEqNil fa)) := (pe_cmpR (op_eqD hu) ha (pe_lst pa_nil) (nomark _)).imp (t_eqNil (c := cX X E) (b := false))
theorem d_neNil (hu : X.A.units + 64 < cLine) (ha : PE X a (tD (cX X E) fa)) : PE X (.Compare a [.NotEq] [.List [] p] pos) (tD (cX X E) (eNeNil fa)) := (pe_cmpR (op_neD hu) ha (pe_lst pa_nil) (nomark _)).imp (t_eqNil (c := cX X E) (b := true))
theorem t_eqNilT (hu : X.A.units + 64 < cLine) (ha : PE X a (tD (cX X E) fa)) : PT X (.Compare a [.Eq] [.List [] p] pos) (tT (cX X E) (tOfE (eEqNil fa))) := (pt_cmpR (op_eqD hu) ha (pe_lst pa_nil) (nomark _)).imp fun σ H Q h => t_eqNil (c := cX X E) (b := false) σ H _ (t_test σ H Q h)
theorem t_neNilT (hu : X.A.units + 64 < cLine) (ha : PE X a (tD (cX X E) fa)) : PT X (.Compare a [.NotEq] [.List [] p] pos) (tT (cX X E) (tOfE (eNeNil fa))) := (pt_cmpR (op_neD hu) ha (pe_lst pa_nil) (nomark _)).imp fun σ H Q h => t_eqNil (c := cX X E) (b := true) σ H _ (t_test σ H Q h)
end
/-! ### len(set(xs)), xs a list of tuples of texts -/
def distK {α : Type} [DecidableEq α] : List α → List α
  | [] => []
  | p :: ps => if p ∈ ps then distK ps else p :: distK ps
theorem distK_mem {α : Type} [DecidableEq α] {x : α} : ∀ {l : List α}, x ∈ distK l ↔ x ∈ l
  | [] => Iff.rfl
  | p :: ps => by
    unfold distK
    split
    · rename_i h
      rw [distK_mem, List.mem_cons]
      exact ⟨.inr, fun z => z.elim (fun e => by rw [e]; exact h) id⟩
    · rw [List.mem_cons, List.mem_cons, distK_mem]
theorem distK_nodup {α : Type} [DecidableEq α] : ∀ {l : List α}, (distK l).Nodup
  | [] => List.nodup_nil
  | p :: ps => by
    unfold distK
    split
    · exact distK_nodup
    · rename_i h
      exact List.nodup_cons.mpr ⟨fun z => h (distK_mem.mp z), distK_nodup⟩
theorem distK_le {α : Type} [DecidableEq α] : ∀ {l : List α}, (distK l).length ≤ l.length
  | [] => Nat.le_refl _
  | p :: ps => by
    unfold distK
    have := distK_le (l := ps)
    split <;> simp <;> omega
theorem distK_all {α : Type} [DecidableEq α] : ∀ {l : List α}, (distK l).length = l.length ↔ l.Nodup
  | [] => by simp [distK]
  | p :: ps => by
    rw [List.nodup_cons]
    unfold distK
    have h1 := distK_le (l := ps)
    split
    · rename_i h
      constructor
      · intro e; simp at e; omega
      · intro e; exact (e.1 h).elim
    · rename_i h
      rw [List.length_cons, List.length_cons, Nat.add_right_cancel_iff, distK_all]
      exact ⟨fun z => ⟨h, z⟩, fun z => z.2⟩
def strsOf : D → Option (List Str)
  | .tup ds => strsD ds
  | _ => none
def cLenSet (ds : List D) (M : Mem) : Option (D × Mem) := match ds with
  | [.ref l] => match M[l]? with
    | some (.lst xs) => match xs.mapM strsOf with
      | some ks => if ks.length ≤ 76 then some (.int ((distK ks).length : Nat), M) else none
      | none => none
    | _ => none
  | _ => none
def eLenSet (e : Cp D) : Cp D := bindC e fun d => memC (cLenSet [d])
end DL

namespace DL
open PySem PySem.Spec PyProof.Rows L2
/-- what the law's def promises -/
def spL (K : PySem.W.Frag) : Sp := fun vs H Q _ => ∃ (a : Addr) (ns : List Int), vs = [.ref a] ∧ StL K H a (ns.map V.int) ∧ ns.length ≤ 63 ∧ ∀ H', Q (.bl true) H'
theorem StL.of_only {K : PySem.W.Frag} {H : Hp} {a : Addr} {xs : List V} (hO : Only H) (h : SqL K H a xs) : StL K H a xs := by
  rcases h with (h | h) | h
  · rcases hO a with e | ⟨o, ys, e⟩
    · rw [e] at h; cases h
    · rw [e] at h; cases h
  · exact .inl h
  · exact .inr h
theorem repL_ints {K : PySem.W.Frag} {H : Hp} {as : List Addr} : ∀ ns : List Int, RepL K H as (ns.map V.int) (ns.map D.int)
  | [] => .nil
  | n :: ns => .cons (.int n) (repL_ints ns)
theorem spL_of {K : PySem.W.Frag} {mg : Str → Option Value} {F : Fn} (h : ∀ ns : List Int, ns.length ≤ 63 → ∃ M', F [.fls (ns.map D.int)] [] = some (.ok (.bl true), M')) : ∀ vs H Q E, spL K vs H Q E → spF K mg 1 F vs H Q E := fun vs H Q E ⟨a, ns, e, hs, hl, q⟩ => by
  subst e
  obtain ⟨M', hf⟩ := h ns hl
  refine ⟨rfl, [], [], _, _, M', ⟨rfl, List.nodup_nil, fun l a o h => by simp at h⟩, .cons (.fls hs (repL_ints ns)) .nil, hf, fun as' v H' ex m r => ?_⟩
  cases r
  exact q H'
theorem law_fin {P : Program} {w : World} {K : PySem.W.Frag} {h : Heap} {mg : Str → Option Value} {fa f1 : Addr} {od1 an1 : Option Addr} {sl1 : Array (Option Value)} {oc1 kV1 dc1 pm1 cd1 ct1 : Value} {st : Stmt} {x : Str} {N : List Str} {body : Sm} {k m : Nat} (X : K.In h) (G : h.Ns mainGlobals mg) (hfa : mg "law" = some (.ref fa))
    (S : FnScope N [x] (defScope st)) (hN : N.length = m)
    (hb : ∀ (kV doc pm : Value) (an : Option Addr) (cdv ct : Value) (s : Shared) (u : Value), BindsTo s (PySem.W.fnOf "law" "law" (defArgs st) (defBody st) (defScope st) .none kV doc pm an cdv ct) ⟨[u], []⟩ [(x, u)])
    (hbody : ∀ base : Heap, K.In base → base.Ns mainGlobals mg → ∀ (f : Addr) (cdv : Value) (A : Around) (outer : List Env) (s : Shared) (H : Hp) (E : XK), Room k (A.deeper (envOfC "law" (defScope st) s.heap.objs.size f cdv)) →
      PSs (cxOf CX0 P w K mg base N "law" (defScope st) f cdv A outer s H E).nox (defBody st) (tS ⟨K, mg, E0⟩ body))
    (hp : ∀ ns : List Int, ns.length ≤ 63 → ∃ M', fn0 (fnOf m 1 body) [.fls (ns.map D.int)] [] = some (.ok (.bl true), M'))
    (a1 : PySem.W.nsIn K mainGlobals "law" = some (some (.ref f1))) (l1 : K.lookup f1 = some ⟨oc1, od1, .func (PySem.W.fnOf "law" "law" (defArgs st) (defBody st) (defScope st) .none kV1 dc1 pm1 an1 cd1 ct1), sl1⟩) (c1 : PySem.W.codeIn K cd1 "law" = true) (k1 : PySem.W.keepIn K (.ref f1) = true) :
    ∃ fd : FuncData, (∀ (s : Shared) (u : Value), BindsTo s fd ⟨[u], []⟩ [(x, u)]) ∧ ∀ base : Heap, K.In base → base.Ns mainGlobals mg → FnOk P w K mg base CX0 (k + 1) fa fd [x] (spL K) := by
  have e := hfa.symm.trans (PySem.W.mg_of X G a1)
  cases e
  have F := fun_mk (st := st) l1 c1 k1
  exact ⟨_, hb kV1 dc1 pm1 an1 cd1 ct1, fun base hK hG => (fn_ok0 F S rfl hN (hbody base hK hG fa)).imp (spL_of hp)⟩
end DL

namespace DL
open PySem PySem.Spec PyProof.Rows L2
section
variable {P : Program} {w : World} {κ : Type} [DecidableEq κ] {kk : KeyKind P w κ} {A : Around} {E : Value → Shared → Prop} {s : Shared}
/-- items that a search needn't ask much -/
structure Calm (kk : KeyKind P w κ) : Prop where
  cls : ∀ k v n, kk.is k v = true → ofAClassStatement n v = pure false
  hv : ∀ k v n, kk.is k v = true → ∃ b, hashByValue n v = pure b
theorem calm_str : Calm (strKind P w) where
  cls := fun k v n h => by
    obtain ⟨t, rfl⟩ := Value.isStrOf_shape h
    cases n <;> rfl
  hv := fun k v n h => by
    obtain ⟨t, rfl⟩ := Value.isStrOf_shape h
    exact ⟨false, by cases n <;> rfl⟩
theorem calm_items (C : Calm kk) {k : List κ} {vs : List Value} (h : ItemsAre kk k vs) : ∀ v ∈ vs, (∀ n, ofAClassStatement n v = pure false) ∧ ∀ n, ∃ b, hashByValue n v = pure b := by
  induction h with
  | nil => intro v hv; cases hv
  | @cons k0 v' ks vs h1 _ ih =>
    intro v hv
    rcases List.mem_cons.mp hv with rfl | hv
    · exact ⟨fun n => C.cls _ _ n h1, fun n => C.hv _ _ n h1⟩
    · exact ih v hv
theorem cls_tup (C : Calm kk) {k : List κ} {b : Addr} {Q : Bool → Shared → Prop} (hk : IsTupleKey kk s.heap k b) (h : Q false s) : wpAny (model P w) A (ofAClassStatement 8 (.ref b)) Q E s := by
  have hT := hk.typeIs
  obtain ⟨o, items, n, ho, _, hd, hi⟩ := hk
  have ci := calm_items C hi
  unfold ofAClassStatement
  refine wpAny_bind (wpAny_typeOf hT ?_)
  have e : (("tuple" : String) == "tuple") = true := by decide
  simp only [e, if_true, Bool.not_true, Bool.false_eq_true, if_false]
  try refine wpAny_bind (wpAny_pure ?_)
  try simp only [Bool.not_true, Bool.false_eq_true, if_false]
  show wpAny _ _ (seqItems? (.ref b) >>= _) _ _ s
  refine wpAny_bind (wpAny_seqItems ho hd ?_)
  dsimp only
  refine wpAny_bind ?_
  show wpAny _ _ (forIn items _ _) _ _ s
  rw [← Array.forIn_toList]
  refine wpAny_forIn_list _ (fun rest r s' => r.1 = none ∧ s' = s ∧ ∀ v ∈ rest, ∀ n, ofAClassStatement n v = pure false) _ ?_ ?_ _ _ ⟨rfl, rfl, fun v hv => (ci v hv).1⟩
  · rintro v rest r s' ⟨hr, rfl, hall⟩
    rw [hall v List.mem_cons_self]
    refine wpAny_bind (wpAny_pure ?_)
    simp only [Bool.false_eq_true, if_false]
    exact wpAny_pure ⟨rfl, rfl, fun u hu => hall u (List.mem_cons_of_mem _ hu)⟩
  · rintro ⟨r1, r2⟩ s' ⟨hr, rfl, _⟩
    dsimp only at hr
    subst hr
    exact wpAny_pure h
theorem hv_tup (C : Calm kk) {k : List κ} {b : Addr} {Q : Bool → Shared → Prop} (hk : IsTupleKey kk s.heap k b) (h : ∀ x, Q x s) : wpAny (model P w) A (hashByValue 8 (.ref b)) Q E s := by
  have hT := hk.typeIs
  obtain ⟨o, items, n, ho, _, hd, hi⟩ := hk
  have ci := calm_items C hi
  unfold hashByValue
  refine wpAny_bind (wpAny_specialOf hT F.slot_tuple_hash.lookup ?_)
  show wpAny _ _ (seqItems? (.ref b) >>= _) _ _ s
  refine wpAny_bind (wpAny_seqItems ho hd ?_)
  refine wpAny_bind ?_
  show wpAny _ _ (forIn items _ _) _ _ s
  rw [← Array.forIn_toList]
  refine wpAny_forIn_list _ (fun rest r s' => s' = s ∧ ∀ v ∈ rest, ∀ n, ∃ b, hashByValue n v = pure b) _ ?_ ?_ _ _ ⟨rfl, fun v hv => (ci v hv).2⟩
  · rintro v rest r s' ⟨rfl, hall⟩
    obtain ⟨x, hx⟩ := hall v List.mem_cons_self 7
    rw [hx]
    refine wpAny_bind (wpAny_pure ?_)
    cases x
    · simp only [Bool.not_false, if_true]
      exact wpAny_pure (wpAny_pure (h _))
    · simp only [Bool.not_true, Bool.false_eq_true, if_false]
      exact wpAny_pure ⟨rfl, fun u hu => hall u (List.mem_cons_of_mem _ hu)⟩
  · rintro ⟨r1, r2⟩ s' ⟨rfl, _⟩
    cases r1 with
    | none => exact wpAny_pure (h _)
    | some x => exact wpAny_pure (h _)

/-- a search among tuples shows nothing -/
theorem seen_k (C : Calm kk) {k : List κ} {b : Addr} {Q : Bool → Shared → Prop} (hk : IsTupleKey kk s.heap k b) {ys : List Value} (hy : ∀ y ∈ ys, ∃ k' c, y = Value.ref c ∧ IsTupleKey kk s.heap k' c) (h : Q false s) :
    wpAny (model P w) A (searchCouldBeSeen (.ref b) ys) Q E s := by
  unfold searchCouldBeSeen
  refine wpAny_bind ?_
  refine wpAny_forIn_list _ (fun rest r s' => r.1 = none ∧ s' = s ∧ ∀ y ∈ rest, y ∈ ys) _ ?_ ?_ _ _ ⟨rfl, rfl, fun _ h => h⟩
  · rintro v rest r s' ⟨hr, rfl, hall⟩
    obtain ⟨k', c, rfl, hc⟩ := hy v (hall v List.mem_cons_self)
    have next : (none : Option Bool) = none ∧ s' = s' ∧ ∀ y ∈ rest, y ∈ ys := ⟨rfl, rfl, fun u hu => hall u (List.mem_cons_of_mem _ hu)⟩
    dsimp only
    by_cases hv : (b == c || (carriedByValue (.ref b) && carriedByValue (.ref c))) = true
    · exact wp_if_pos hv (wpAny_pure next)
    · refine wp_if_neg hv ?_
      refine wpAny_bind (wpAny_eqIsQuiet_tuple hk ?_)
      simp only [Bool.not_true, Bool.false_eq_true, if_false]
      refine wpAny_bind (wpAny_eqIsQuiet_tuple hc ?_)
      simp only [Bool.not_true, Bool.false_eq_true, if_false]
      refine wpAny_bind (cls_tup C hk ?_)
      simp only [Bool.false_eq_true, if_false]
      refine wpAny_bind (cls_tup C hc ?_)
      simp only [Bool.false_eq_true, if_false]
      exact wpAny_pure next
  · rintro ⟨r1, r2⟩ s' ⟨hr, rfl, _⟩
    dsimp only at hr
    subst hr
    exact wpAny_pure h
/-! ### a set of such tuples, at its address -/
abbrev hK (kk : KeyKind P w κ) (k : List κ) : Int := tupleKeyHash kk k
def cellK (kk : KeyKind P w κ) (p : Addr × List κ) : Int × Value := (hK kk p.2, .ref p.1)
structure SetK (kk : KeyKind P w κ) (h : Heap) (a : Addr) (L : List (Addr × List κ)) (es : Array (Int × Value)) (ep : Nat) (t : SetTable) : Prop where
  ob : ∃ o, h.get? a = some o ∧ o.ExactSet ∧ o.data = .set es ep t
  rows : es.toList = L.map (cellK kk)
  tab : TabOk t (L.map fun p => hK kk p.2)
  nd : (L.map (·.2)).Nodup
  tup : ∀ p ∈ L, IsTupleKey kk h p.2 p.1
  room : L.length * 5 < t.mask * 3
section
variable {a : Addr} {L : List (Addr × List κ)} {es : Array (Int × Value)} {ep : Nat} {t : SetTable}
theorem rows_size (h : es.toList = L.map (cellK kk)) : es.size = L.length := by
  rw [← Array.length_toList, h, List.length_map]
theorem fits_of (h1 : t.place.size = L.length) (h2 : es.size = L.length) (hd : t.dummies = #[]) (h3 : L.length ≤ t.mask) : t.fits es.size = true := by
  unfold SetTable.fits SetTable.fill
  rw [hd, Bool.and_eq_true, beq_iff_eq, decide_eq_true_eq]
  show t.place.size = es.size ∧ t.place.size + 0 ≤ t.mask
  omega
theorem SetK.fits (R : SetK kk s.heap a L es ep t) : t.fits es.size = true := by
  have h1 := R.tab.sz
  rw [List.length_map] at h1
  have h3 := R.room
  exact fits_of h1 (rows_size R.rows) R.tab.dm (by omega)
theorem SetK.entry (R : SetK kk s.heap a L es ep t) {i : Nat} {p : Addr × List κ} (h : L[i]? = some p) : es[i]? = some (cellK kk p) := by
  rw [← Array.getElem?_toList, R.rows, List.getElem?_map, h]
  rfl
/-- the c-th stand of the way for a hash -/
def pro (m : Nat) (h : Int) (c : Nat) : SetTable.Probe := nth m (runAt m (SetTable.bits h % (m + 1)) (SetTable.bits h)) c
theorem pro_j {m : Nat} {h : Int} {c : Nat} : (pro m h c).j = way m h c := rfl
theorem pro_nth {m : Nat} {h : Int} {c q : Nat} : nth m (pro m h c) q = pro m h (c + q) := (nth_add m c _ q).symm
theorem nth_dummy {m : Nat} : ∀ (n : Nat) (p : SetTable.Probe), p.dummy = none → (nth m p n).dummy = none
  | 0, _, h => h
  | n + 1, p, h => nth_dummy n (adv m p) (by unfold adv; split <;> exact h)
theorem search_k (C : Calm kk) (R : SetK kk s.heap a L es ep t) {x : Addr} {k : List κ} (hx : IsTupleKey kk s.heap k x) (hu : A.units < cLine) {K : Nat} (hKf : K < 10 * SetTable.turns t.mask)
    (hno : way t.mask (hK kk k) K ∉ t.place.toList) (hyes : ∀ c, c < K → way t.mask (hK kk k) c ∈ t.place.toList) {Q : SetFound → Shared → Prop}
    (hin : k ∈ L.map (·.2) → Q (.there none) s) (hout : k ∉ L.map (·.2) → Q (.free (way t.mask (hK kk k) K) false) s) :
    ∀ (f c : Nat) (stand : Option SetTable.Probe), stand.getD (t.probeStart (hK kk k)) = pro t.mask (hK kk k) c → c ≤ K → K - c < f →
      (∀ (i : Nat) p, L[i]? = some p → p.2 = k → ∃ d, c ≤ d ∧ d < K ∧ t.place.toList[i]? = some (way t.mask (hK kk k) d)) →
      wpAny (model P w) A (setSearchFrom a (.ref x) (hK kk k) true f stand) Q E s
  | 0, c, stand, _, _, hf, _ => absurd hf (Nat.not_lt_zero _)
  | f + 1, c, stand, hst, hc, hf, hre => by
    obtain ⟨o, ho, hex, hd⟩ := R.ob
    have gw : ¬ t.gaveWay = true := by
      unfold SetTable.gaveWay
      rw [mask_odd R.tab.mok]
      decide
    rw [setSearchFrom_succ]
    refine wpAny_bind (wpAny_setState_of ho hd R.fits ?_)
    dsimp only
    refine wp_if_neg gw ?_
    try refine wpAny_bind (wpAny_pure ?_)
    have hash : ∀ (i : Nat) p, L[i]? = some p → (fun i => (es[i]?.map (·.1)).getD 0) i = hK kk p.2 := fun i p hp => by
      show (es[i]?.map (·.1)).getD 0 = _
      rw [R.entry hp]
      rfl
    have spec := go_spec t R.tab.ris R.tab.dm (fun i => (es[i]?.map (·.1)).getD 0) (hK kk k) (10 * SetTable.turns t.mask) (K - c) (pro t.mask (hK kk k) c) (nth_dummy _ _ rfl) (by omega)
      (fun q hq => by rw [pro_nth, pro_j]; exact hyes (c + q) (by omega)) (by rw [pro_nth, pro_j, show c + (K - c) = K by omega]; exact hno)
    simp only [pro_nth, pro_j] at spec
    rcases spec with ⟨q, i, hq, hi, hh, hfst, hpr⟩ | ⟨hfst, hpr⟩
    · have hpr' : t.probe (fun i => (es[i]?.map (·.1)).getD 0) (hK kk k) (stand.getD (t.probeStart (hK kk k))) = some (.candidate (way t.mask (hK kk k) (c + q)) i (pro t.mask (hK kk k) (c + (q + 1)))) := by
        rw [hst]
        exact hpr
      rw [hpr']
      dsimp only
      have hil : i < L.length := by
        have h1 := (List.getElem?_eq_some_iff.mp hi).1
        have h2 := R.tab.sz
        rw [List.length_map] at h2
        rw [Array.length_toList] at h1
        omega
      obtain ⟨p, hp⟩ : ∃ p, L[i]? = some p := ⟨_, List.getElem?_eq_getElem hil⟩
      have hmem := List.mem_of_getElem? hp
      have rest : wpAny (model P w) A (searchRest a (.ref x) (hK kk k) true f es t (way t.mask (hK kk k) (c + q)) i (pro t.mask (hK kk k) (c + (q + 1)))) Q E s := by
        unfold searchRest
        rw [R.entry hp]
        unfold cellK
        dsimp only
        refine wpAny_bind (wpAny_holding (wpAny_eqBool_tuple hu (R.tup p hmem) hx ?_))
        refine wpAny_bind (wpAny_setState_of ho hd R.fits ?_)
        dsimp only
        by_cases hkk : p.2 = k
        · exact wp_if_pos (by simp [hkk]) (wpAny_pure (hin (List.mem_map.mpr ⟨p, hmem, hkk⟩)))
        · refine wp_if_neg (by simp [hkk]) ?_
          try refine wpAny_bind (wpAny_pure ?_)
          rw [sameMem]
          dsimp only
          have hsl : t.slot (way t.mask (hK kk k) (c + q)) = .live i := slot_live R.tab.ris hi
          have hen := R.entry hp
          unfold cellK at hen
          simp only [if_true, hsl, hen]
          refine wpAny_bind (wpAny_isSame_ref_self (wpAny_bind (wpAny_pure ?_)))
          simp only [if_true]
          refine wp_if_neg (by simp [hkk]) ?_
          refine search_k C R hx hu hKf hno hyes hin hout f (c + (q + 1)) _ rfl (by omega) (by omega) fun i0 p0 h0 hk0 => ?_
          obtain ⟨d, d1, d2, d3⟩ := hre i0 p0 h0 hk0
          have hne : ¬ d < c + q := fun z => hfst (d - c) i0 (by omega) (by rw [show c + (d - c) = d by omega]; exact d3) ((hash i0 p0 h0).trans (congrArg (hK kk) hk0))
          have hne2 : d ≠ c + q := fun z => by
            rw [z] at d3
            have s0 := slot_live R.tab.ris d3
            rw [hsl] at s0
            injection s0 with s0
            rw [← s0, hp] at h0
            exact hkk ((congrArg Prod.snd (Option.some.inj h0)).trans hk0)
          exact ⟨d, by omega, d2, d3⟩
      by_cases hl : t.led = true
      · refine wp_if_neg (by simp [hl]) ?_
        try refine wpAny_bind (wpAny_pure ?_)
        exact rest
      · refine wp_if_pos (by simp [hl]) ?_
        refine wpAny_bind (seen_k C hx (fun y hy => ?_) ?_)
        · obtain ⟨e, he, ee⟩ := List.mem_map.mp hy
          have he1 : e ∈ es ∧ e.1 = hK kk k := by simpa using he
          have he2 : e ∈ es.toList := by simpa using he1.1
          rw [R.rows] at he2
          obtain ⟨p2, hp2, e2⟩ := List.mem_map.mp he2
          exact ⟨p2.2, p2.1, by rw [← ee, ← e2]; rfl, R.tup p2 hp2⟩
        · refine wp_if_neg (by decide) ?_
          try refine wpAny_bind (wpAny_pure ?_)
          exact rest
    · have hpr' : t.probe (fun i => (es[i]?.map (·.1)).getD 0) (hK kk k) (stand.getD (t.probeStart (hK kk k))) = some (.empty (way t.mask (hK kk k) K) none) := by
        rw [hst]
        rw [show c + (K - c) = K by omega] at hpr
        exact hpr
      rw [hpr']
      dsimp only
      refine wpAny_pure (hout fun hm => ?_)
      obtain ⟨p0, h0, hk0⟩ := List.mem_map.mp hm
      obtain ⟨i0, hi0⟩ := List.getElem?_of_mem h0
      obtain ⟨d, d1, d2, d3⟩ := hre i0 p0 hi0 hk0
      exact hfst (d - c) i0 (by omega) (by rw [show c + (d - c) = d by omega]; exact d3) ((hash i0 p0 hi0).trans (congrArg (hK kk) hk0))
theorem search_at_k (C : Calm kk) (R : SetK kk s.heap a L es ep t) {x : Addr} {k : List κ} (hx : IsTupleKey kk s.heap k x) (hu : A.units < cLine) {Q : SetFound → Shared → Prop}
    (hin : k ∈ L.map (·.2) → Q (.there none) s)
    (hout : ∀ K, k ∉ L.map (·.2) → way t.mask (hK kk k) K ∉ t.place.toList → (∀ c, c < K → way t.mask (hK kk k) c ∈ t.place.toList) → Q (.free (way t.mask (hK kk k) K) false) s) :
    wpAny (model P w) A (setSearch a (.ref x) (hK kk k) true) Q E s := by
  have hroom := R.room
  obtain ⟨K, hKf, hno, hyes⟩ := R.tab.first (by rw [List.length_map]; omega) (hK kk k)
  have hbig : K < 100000 := by
    have : 10 * SetTable.turns t.mask ≤ 1420 := by
      unfold SetTable.turns
      rcases R.tab.mok with e | e | e <;> omega
    omega
  unfold setSearch
  refine search_k C R hx hu hKf hno hyes hin (fun hn => hout K hn hno hyes) 100000 0 none rfl (Nat.zero_le _) (by omega) fun i p hp hk => ?_
  have hi : (L.map fun p => hK kk p.2)[i]? = some (hK kk k) := by rw [List.getElem?_map, hp, ← hk]; rfl
  have hil : i < t.place.toList.length := by
    have h1 := (List.getElem?_eq_some_iff.mp hp).1
    have h2 := R.tab.sz
    rw [List.length_map] at h2
    rw [Array.length_toList]
    omega
  obtain ⟨c, hc, e⟩ := R.tab.before hno hi (List.getElem?_eq_getElem hil)
  exact ⟨c, Nat.zero_le _, hc, by rw [List.getElem?_eq_getElem hil, e]⟩

/-! ### adding -/
theorem tup_same {h h' : Heap} {k : List κ} {b : Addr} {o : Obj} (hb : IsTupleKey kk h k b) (ho : h.get? a = some o) (hd : o.data = .set es ep t) (hs : Heap.SameBut a h h') : IsTupleKey kk h' k b := by
  obtain ⟨o', items, n, ho', hc, hd', hi⟩ := hb
  refine ⟨o', items, n, (hs.2 b fun e => ?_).trans ho', hc, hd', hi⟩
  subst e
  rw [ho] at ho'
  rw [← Option.some.inj ho', hd] at hd'
  cases hd'
theorem pick_all {α : Type} (L : List α) : (List.range L.length).filterMap (fun i => L[i]?) = L := by
  have : ∀ n, n ≤ L.length → (List.range n).filterMap (fun i => L[i]?) = L.take n := by
    intro n
    induction n with
    | zero => intro _; rfl
    | succ n ih =>
      intro hn
      rw [List.range_succ, List.filterMap_append, ih (by omega), List.take_add_one, List.filterMap_cons, List.filterMap_nil]
      cases L[n]? <;> rfl
  rw [this _ (Nat.le_refl _), List.take_length]
/-- the rows in another order -/
theorem order_k (L : List (Addr × List κ)) (es : Array (Int × Value)) (order : Array Nat) (hr : es.toList = L.map (cellK kk)) (hp : order.toList.Perm (List.range L.length)) :
    ∃ L2 : List (Addr × List κ), (order.filterMap (es[·]?)).toList = L2.map (cellK kk) ∧ L2.Perm L ∧ (L2.map fun p => hK kk p.2) = order.toList.map fun i => (es.map (·.1)).getD i 0 := by
  have ent : ∀ i, es[i]? = (L[i]?).map (cellK kk) := fun i => by rw [← Array.getElem?_toList, hr, List.getElem?_map]
  refine ⟨order.toList.filterMap fun i => L[i]?, ?_, ?_, ?_⟩
  · rw [Array.toList_filterMap, List.map_filterMap]
    congr 1
    funext i
    exact ent i
  · have h := hp.filterMap fun i => L[i]?
    rw [pick_all] at h
    exact h
  · have hl : ∀ i ∈ order.toList, i < L.length := fun i hi => List.mem_range.mp (hp.mem_iff.mp hi)
    generalize order.toList = l at hl
    induction l with
    | nil => rfl
    | cons i l ih =>
      have e := List.getElem?_eq_getElem (hl i List.mem_cons_self)
      rw [List.filterMap_cons, e]
      dsimp only
      rw [List.map_cons, List.map_cons, ih fun j hj => hl j (List.mem_cons_of_mem _ hj)]
      congr 1
      have e2 : (es.map (·.1))[i]? = some (hK kk (L[i]'(hl i List.mem_cons_self)).2) := by
        rw [Array.getElem?_map, ent, e]
        rfl
      rw [Array.getD_eq_getD_getElem?, e2]
      rfl
theorem relay_k {o : Obj} (ho : s.heap.get? a = some o) (hex : o.ExactSet) (hd : o.data = .set es ep t) (hrows : es.toList = L.map (cellK kk)) (hsz : t.place.size = L.length) (hdm : t.dummies = #[]) (hfl : L.length ≤ t.mask)
    (nd : (L.map (·.2)).Nodup) (tup : ∀ p ∈ L, IsTupleKey kk s.heap p.2 p.1) {wanted M : Nat}
    (hw : SetTable.sizeAbove wanted - 1 = M) (hM : MaskOk M) (hw2 : SetTable.sizeAbove wanted ≤ 128) (hn : L.length * 5 < M * 3) {Q : Unit → Shared → Prop}
    (hQ : ∀ h' L' es' ep' t', Heap.SameBut a s.heap h' → SetK kk h' a L' es' ep' t' → L'.Perm L → Q () { s with heap := h' }) : wpAny (model P w) A (setRelay a wanted) Q E s := by
  have hsl := rows_size hrows
  obtain ⟨t', order, e, hp, T, em, _, _, _⟩ := relaid_ok t (hs := es.map (·.1)) (wanted := wanted) hw hM (by rw [Array.size_map, hsl]; omega)
  rw [Array.size_map, hsl] at hp
  obtain ⟨L2, r1, r2, r3⟩ := order_k L es order hrows hp
  rw [← r3] at T
  have hs2 : (order.filterMap (es[·]?)).size = es.size := by
    rw [rows_size r1, r2.length_eq, hsl]
  have sb : Heap.SameBut a s.heap (s.heap.update a (Obj.putSet (order.filterMap (es[·]?)) t')) := Heap.SameBut.update ..
  rw [setRelay_eq]
  refine wpAny_bind (wpAny_setState_of ho hd (fits_of hsz hsl hdm hfl) ?_)
  dsimp only
  refine wp_if_neg (by rw [sizeLine_eq]; omega) ?_
  try refine wpAny_bind (wpAny_pure ?_)
  rw [e]
  dsimp only
  refine wpAny_bind ?_
  refine wp_if_neg (by rw [hs2]; simp) ?_
  try refine wpAny_bind (wpAny_pure ?_)
  refine wpAny_pure ?_
  dsimp only
  refine wpAny_storeSet_of ho hd ?_ (by rw [hs2, hsl, sizeLine_eq]; rcases hM with e | e | e <;> omega)
  refine hQ _ L2 (order.filterMap (es[·]?)) (ep + 1) t' sb ⟨⟨_, store_at ho hd, ⟨hex.1, hex.2.1, hex.2.2⟩, rfl⟩, r1, T, (r2.map (·.2)).nodup_iff.mpr nd, fun p hp => tup_same (tup p (r2.mem_iff.mp hp)) ho hd sb, ?_⟩ r2
  rw [r2.length_eq, em]
  exact hn
theorem add_k (C : Calm kk) (R : SetK kk s.heap a L es ep t) {x : Addr} {k : List κ} (hx : IsTupleKey kk s.heap k x) (hu : A.units < cLine) (hfew : L.length < 76) {Q : Bool → Shared → Prop}
    (hQ : ∀ b h' L' es' ep' t', Heap.SameBut a s.heap h' → SetK kk h' a L' es' ep' t' → (k ∈ L.map (·.2) → L' = L) → (k ∉ L.map (·.2) → L'.Perm ((x, k) :: L)) → Q b { s with heap := h' }) :
    wpAny (model P w) A (setAddHashed a (.ref x) (hK kk k)) Q E s := by
  obtain ⟨o, ho, hex, hd⟩ := R.ob
  have hsl := rows_size R.rows
  have hroom := R.room
  unfold setAddHashed
  refine wpAny_holding ?_
  rw [show (100000 : Nat) = 99999 + 1 from rfl, setAddHashedIn_succ]
  refine wpAny_bind (wpAny_setState_of ho hd R.fits ?_)
  dsimp only
  refine wp_if_neg (by simp [byScan, Value.scannable]) ?_
  try refine wpAny_bind (wpAny_pure ?_)
  refine wpAny_bind (search_at_k C R hx hu (fun hm => ?_) fun K hm hno hyes => ?_)
  · dsimp only
    exact wpAny_pure (hQ false s.heap L es ep t (Heap.SameBut.refl a s.heap) R (fun _ => rfl) fun z => absurd hm z)
  · dsimp only
    refine wpAny_bind (wpAny_setState_of ho hd R.fits ?_)
    dsimp only
    obtain ⟨q1, q2, q3, q4, _, _, _, _, q9⟩ := R.tab.put hno hyes
    generalize hpt : t.put (way t.mask (hK kk k) K) = pt at q1 q3 q4 q9 ⊢
    obtain ⟨t1, p⟩ := pt
    dsimp only at q1 q3 q4 q9 ⊢
    subst q1
    generalize hpp : SetTable.below t.place (way t.mask (hK kk k) K) = p at q2 q3 ⊢
    -- what is stored, whatever the table is told about values
    have main : ∀ t2 : SetTable, t2.place = t1.place → t2.dummies = t1.dummies → t2.mask = t1.mask →
        wpAny (model P w) A (do
          storeSet a (SetTable.insertAt es p (hK kk k, Value.ref x)) t2
          if (!false && t2.tooFull) = true then setRelay a (SetTable.grown (es.size + 1))
          return true) Q E s := by
      intro t2 e1 e2 e3
      have pm : (L.take p ++ (x, k) :: L.drop p).Perm ((x, k) :: L) := by
        have h : (L.take p ++ (x, k) :: L.drop p).Perm ((x, k) :: (L.take p ++ L.drop p)) := List.perm_middle
        rw [List.take_append_drop] at h
        exact h
      have hin : (SetTable.insertAt es p (hK kk k, Value.ref x)).toList = (L.take p ++ (x, k) :: L.drop p).map (cellK kk) := by
        rw [SetTable.toList_insertAt, R.rows, List.map_append, List.map_cons, List.map_take, List.map_drop]
        rfl
      have q3' : TabOk t2 ((L.take p ++ (x, k) :: L.drop p).map fun p => hK kk p.2) := by
        rw [List.map_append, List.map_cons, List.map_take, List.map_drop]
        exact ⟨by rw [e1]; exact q3.ris, by rw [e2]; exact q3.dm, by rw [e1]; exact q3.sz, by rw [e3]; exact q3.mok, by rw [e1, e3]; exact q3.bd, by rw [e1, e3]; exact q3.reach⟩
      have nd1 : ((L.take p ++ (x, k) :: L.drop p).map (·.2)).Nodup := by
        refine (pm.map (·.2)).nodup_iff.mpr ?_
        rw [List.map_cons]
        exact List.nodup_cons.mpr ⟨hm, R.nd⟩
      have hlen : (L.take p ++ (x, k) :: L.drop p).length = L.length + 1 := pm.length_eq
      have hes := rows_size hin
      rw [hlen] at hes
      generalize SetTable.insertAt es p (hK kk k, Value.ref x) = es1 at hin hes ⊢
      generalize L.take p ++ (x, k) :: L.drop p = L1 at pm hlen q3' nd1 hin
      refine wpAny_bind (wpAny_storeSet_of ho hd ?_ (by rw [hes, sizeLine_eq]; omega))
      have sb : Heap.SameBut a s.heap (s.heap.update a (Obj.putSet es1 t2)) := Heap.SameBut.update ..
      have ho1 := store_at (es' := es1) (t' := t2) ho hd
      generalize s.heap.update a (Obj.putSet es1 t2) = h1 at sb ho1 ⊢
      have tup1 : ∀ p ∈ L1, IsTupleKey kk h1 p.2 p.1 := fun p hp => by
        rcases List.mem_cons.mp (pm.mem_iff.mp hp) with e | hp
        · rw [e]; exact tup_same hx ho hd sb
        · exact tup_same (R.tup p hp) ho hd sb
      have hfill : t2.fill = L.length + 1 := by
        have h9 := q9
        rw [List.length_map] at h9
        have : t2.fill = t1.fill := by unfold SetTable.fill; rw [e1, e2]
        rw [this, h9]
      by_cases hf : t2.tooFull = true
      · first
          | (refine wpAny_bind ?_; refine wp_if_pos (by simp [hf]) ?_)
          | (refine wp_if_pos (by simp [hf]) ?_; refine wpAny_bind ?_)
        have hfull : (L.length + 1) * 5 ≥ t2.mask * 3 := by
          have h := hf
          unfold SetTable.tooFull at h
          rw [decide_eq_true_eq, hfill] at h
          exact h
        rw [e3, q4] at hfull
        rw [hsl]
        have hsz1 : t2.place.size = L1.length := by
          have h := q3'.sz
          rw [List.length_map] at h
          exact h
        have go : ∀ M, SetTable.sizeAbove (SetTable.grown (L.length + 1)) - 1 = M → MaskOk M → SetTable.sizeAbove (SetTable.grown (L.length + 1)) ≤ 128 → (L.length + 1) * 5 < M * 3 → L.length + 1 ≤ t.mask →
            wpAny (model P w) A (setRelay a (SetTable.grown (L.length + 1))) (fun _ s' => wpAny (model P w) A (pure true) Q E s') E { s with heap := h1 } := fun M g1 g2 g3 g4 g5 => by
          refine relay_k (s := { s with heap := h1 }) ho1 ⟨hex.1, hex.2.1, hex.2.2⟩ rfl hin hsz1 q3'.dm (by rw [hlen, e3, q4]; exact g5) nd1 tup1 g1 g2 g3 (by rw [hlen]; exact g4) ?_
          intro h2 L2 es2 ep2 t3 sb2 R2 pm2
          exact wpAny_pure (hQ true h2 L2 es2 ep2 t3 (sb.trans sb2) R2 (fun z => absurd z hm) fun _ => pm2.trans pm)
        rcases R.tab.mok with e | e | e
        · have e2 : L.length = 4 := by rw [e] at hfull hroom; omega
          refine go 31 ?_ (.inr (.inl rfl)) ?_ ?_ ?_ <;> first | (rw [e2, size_20]; done) | (rw [e2, size_20]; decide) | omega
        · have e2 : L.length = 18 := by rw [e] at hfull hroom; omega
          refine go 127 ?_ (.inr (.inr rfl)) ?_ ?_ ?_ <;> first | (rw [e2, size_76]; done) | (rw [e2, size_76]; decide) | omega
        · rw [e] at hfull; omega
      · first
          | refine wp_if_neg (by simp [hf]) ?_
          | (refine wpAny_bind ?_; refine wp_if_neg (by simp [hf]) ?_; refine wpAny_pure ?_)
        refine wpAny_pure (hQ true h1 L1 es1 (ep + 1) t2 sb ⟨⟨_, ho1, ⟨hex.1, hex.2.1, hex.2.2⟩, rfl⟩, hin, q3', nd1, tup1, ?_⟩ (fun z => absurd z hm) fun _ => pm)
        have h := hf
        unfold SetTable.tooFull at h
        rw [decide_eq_true_eq, hfill] at h
        rw [hlen]
        omega
    by_cases hp : t1.plain = true
    · refine wp_if_pos hp (wpAny_bind (hv_tup C hx fun b => ?_))
      cases b
      · exact main { t1 with plain := false } rfl rfl rfl
      · exact main t1 rfl rfl rfl
    · refine wp_if_neg hp (wpAny_bind (wpAny_pure ?_))
      exact main t1 rfl rfl rfl
/-! ### set(xs), xs a list of such tuples -/
/-- what the set has of the first i -/
structure GotK (ks : List (Addr × List κ)) (i : Nat) (L : List (Addr × List κ)) : Prop where
  sub : ∀ p ∈ L, p ∈ ks.take i
  all : ∀ p ∈ ks.take i, p.2 ∈ L.map (·.2)
  len : L.length ≤ i
theorem GotK.same {ks L : List (Addr × List κ)} {i : Nat} {x : Addr × List κ} (g : GotK ks i L) (h : ks[i]? = some x) (hm : x.2 ∈ L.map (·.2)) : GotK ks (i + 1) L := by
  have e : ks.take (i + 1) = ks.take i ++ [x] := by rw [List.take_add_one, h]; rfl
  refine ⟨fun p hp => by rw [e]; exact List.mem_append_left _ (g.sub p hp), fun p hp => ?_, by have := g.len; omega⟩
  rw [e] at hp
  rcases List.mem_append.mp hp with z | z
  · exact g.all p z
  · rw [List.mem_singleton.mp z]; exact hm
theorem GotK.more {ks L L' : List (Addr × List κ)} {i : Nat} {x : Addr × List κ} (g : GotK ks i L) (h : ks[i]? = some x) (pm : L'.Perm (x :: L)) : GotK ks (i + 1) L' := by
  have e : ks.take (i + 1) = ks.take i ++ [x] := by rw [List.take_add_one, h]; rfl
  refine ⟨fun p hp => ?_, fun p hp => ?_, by rw [pm.length_eq, List.length_cons]; have := g.len; omega⟩
  · rw [e]
    rcases List.mem_cons.mp (pm.mem_iff.mp hp) with rfl | z
    · exact List.mem_append_right _ (List.mem_singleton.mpr rfl)
    · exact List.mem_append_left _ (g.sub p z)
  · rw [(pm.map (·.2)).mem_iff, List.map_cons]
    rw [e] at hp
    rcases List.mem_append.mp hp with z | z
    · exact List.mem_cons_of_mem _ (g.all p z)
    · rw [List.mem_singleton.mp z]; exact List.mem_cons_self
theorem tup_keep {h h' : Heap} {k : List κ} {b : Addr} (x : IsTupleKey kk h k b) (hk : ∀ c o, h.get? c = some o → h'.get? c = some o) : IsTupleKey kk h' k b := by
  obtain ⟨o, items, n, ho, r⟩ := x
  exact ⟨o, items, n, hk b o ho, r⟩
/-- the new set's object -/
abbrev set0 (w : World) : Obj := { cls := .type "set", dict := none, data := .set #[] 0 (.fresh 0 0 (!w.params.followText "set-order")) }
theorem SetK.fresh {h : Heap} (ho : h.get? a = some (set0 w)) : SetK kk h a [] #[] 0 (.fresh 0 0 (!w.params.followText "set-order")) where
  ob := ⟨_, ho, ⟨rfl, rfl, rfl⟩, rfl⟩
  rows := rfl
  tab := ⟨List.Pairwise.nil, rfl, rfl, .inl rfl, fun x hx => (by cases hx), fun i h j hi => (by simp at hi)⟩
  nd := List.nodup_nil
  tup := fun p hp => (by cases hp)
  room := by show 0 * 5 < 7 * 3; decide
theorem SetK.keep {h h' : Heap} (R : SetK kk h a L es ep t) (ha : ∀ o, h.get? a = some o → h'.get? a = some o) (ht : ∀ p ∈ L, IsTupleKey kk h' p.2 p.1) : SetK kk h' a L es ep t := by
  obtain ⟨o, ho, r⟩ := R.ob
  exact ⟨⟨o, ha o ho, r⟩, R.rows, R.tab, R.nd, ht, R.room⟩
theorem update_k (C : Calm kk) {I : Addr} {fp wr : List Addr} {G : Array GenState → Array GenState → Prop} {n : Nat} {Pv : Nat → Value → Prop} {St : Nat → Shared → Prop} {R : Result → Shared → Prop}
    (W : WalksS P w A.in1 I fp wr G n Pv St) (S : Addr) (hSf : S ∉ fp) (ks : List (Addr × List κ)) (hn : n = ks.length) (hfew : ks.length ≤ 76) (hval : ∀ i v, Pv i v → ∃ p, ks[i]? = some p ∧ v = .ref p.1)
    (h0 : Heap) (hk : ∀ p ∈ ks, IsTupleKey kk h0 p.2 p.1) (hS0 : h0.get? S = none) (hw0 : ∀ b ∈ wr, h0.get? b = none) (hu : A.in1.units < cLine) :
    ∀ (k i : Nat) (s : Shared), n - i = k → i ≤ n → St i s → (∀ b o, h0.get? b = some o → s.heap.get? b = some o) → (∃ L es ep t, SetK kk s.heap S L es ep t ∧ GotK ks i L) →
      (∀ s' L es ep t, Moved (S :: wr) G s s' → SetK kk s'.heap S L es ep t → GotK ks n L → (∀ b o, h0.get? b = some o → s'.heap.get? b = some o) → R (.ok (.ret .none)) s') →
      codeAny (model P w) A (.builtin "set.update.loop" ⟨[.ref S, .ref I], []⟩) R s := by
  have hSw : S ∉ wr := fun h => hSf (W.sub _ h)
  have hsub : ∀ b ∈ wr, b ∈ S :: wr := fun b hb => List.mem_cons_of_mem _ hb
  have keepM : ∀ {s s' : Shared}, Moved wr G s s' → (∀ b o, h0.get? b = some o → s.heap.get? b = some o) → ∀ b o, h0.get? b = some o → s'.heap.get? b = some o := fun hm hkp b o e =>
    hm.heap b o (fun hb => by rw [hw0 b hb] at e; cases e) (hkp b o e)
  intro k
  induction k with
  | zero =>
    intro i s hk' hi hst hkp ⟨L, es, ep, t, hS, g⟩ hR
    have hin : i = n := by omega
    subst hin
    refine codeAny_builtin F.entry_set_update_loop ?_
    rw [Around.under_plainId F.plain_set_update_loop _]
    show wpAny _ A.in1 (pyNext (.ref I) >>= _) _ _ s
    refine wpAny_bind (W.done s _ _ hst fun s' hm => ?_)
    show wpAny _ A.in1 (ret Value.none) _ _ s'
    have hkp' := keepM hm hkp
    exact wpAny_pure (hR s' L es ep t (hm.mono hsub) (hS.keep (fun o e => hm.heap S o hSw e) fun p hp => tup_keep (hk p (List.mem_of_mem_take (g.sub p hp))) hkp') g hkp')
  | succ k ih =>
    intro i s hk' hi hst hkp ⟨L, es, ep, t, hS, g⟩ hR
    have hlt : i < n := by omega
    refine codeAny_builtin F.entry_set_update_loop ?_
    rw [Around.under_plainId F.plain_set_update_loop _]
    show wpAny _ A.in1 (pyNext (.ref I) >>= _) _ _ s
    refine wpAny_bind (W.item i s _ _ hlt hst fun v s' hP hst' hm => ?_)
    obtain ⟨p, hp, rfl⟩ := hval i v hP
    have hkp' := keepM hm hkp
    have hS' : SetK kk s'.heap S L es ep t := hS.keep (fun o e => hm.heap S o hSw e) fun q hq => tup_keep (hk q (List.mem_of_mem_take (g.sub q hq))) hkp'
    have hx : IsTupleKey kk s'.heap p.2 p.1 := tup_keep (hk p (List.mem_of_getElem? hp)) hkp'
    show wpAny _ A.in1 (holding [Value.ref p.1] (setAdd S (.ref p.1)) >>= _) _ _ s'
    refine wpAny_bind (wpAny_holding ?_)
    unfold setAdd
    refine wpAny_holding ?_
    refine wpAny_bind (wpAny_pyHash_tuple hu hx ?_)
    refine add_k (s := { s' with toks := s'.toks + (p.2.length + 1) }) C hS' hx hu (by have := g.len; omega) fun b h' L' es' ep' t' hsb hS2 c1 c2 => ?_
    have g' : GotK ks (i + 1) L' := by
      rcases Classical.em (p.2 ∈ L.map (·.2)) with c | c
      · rw [c1 c]; exact g.same hp c
      · exact g.more hp (c2 c)
    have hkp2 : ∀ b o, h0.get? b = some o → h'.get? b = some o := fun b o e => (hsb.2 b (fun z => by rw [z, hS0] at e; cases e)).trans (hkp' b o e)
    refine wpAny_pure ⟨plainId_quiet F.plain_set_update_loop _, ih (i + 1) _ (by omega) hlt (W.frame _ s' _ _ hst' (Nat.le_add_right _ _) fun b hb o e => ?_) hkp2 ⟨L', es', ep', t', hS2, g'⟩ fun s'' L2 es2 ep2 t2 hm'' hS'' g'' hkp'' => ?_⟩
    · rw [hsb.2 b (fun h : b = S => hSf (by rw [← h]; exact hb))]; exact e
    · refine hR s'' L2 es2 ep2 t2 (Moved.trans W.gtrans ((hm.mono hsub).then_heap (Nat.le_add_right _ _) fun b o hb e => ?_) hm'') hS'' g'' hkp''
      rw [hsb.2 b (fun h : b = S => hb (by rw [h]; exact List.mem_cons_self))]; exact e

theorem none_at {h : Heap} {b : Addr} (hb : h.objs.size ≤ b) : h.get? b = none := by
  cases q : h.get? b with
  | none => rfl
  | some o => exact absurd (Nat.lt_of_lt_of_le (Heap.lt_size q) hb) (Nat.lt_irrefl _)
set_option maxHeartbeats 3200000 in
/-- filling the new set -/
theorem init_k (C : Calm kk) {l : Addr} {items : Array Value} (ks : List (Addr × List κ)) (hh : A.handled = none) (hl : s.heap.IsList l items) (hit : items.toList = ks.map fun p => Value.ref p.1)
    (hk : ∀ p ∈ ks, IsTupleKey kk s.heap p.2 p.1) (hfew : ks.length ≤ 76) (hu : A.units + 1 < cLine) {Q : PySem.Fin → Shared → Prop}
    (h : ∀ h' tk L es ep t, SetK kk h' s.heap.objs.size L es ep t → GotK ks ks.length L → (∀ b o, s.heap.get? b = some o → h'.get? b = some o) → wpAny (model P w) A (ret Value.none) Q E { s with heap := h', toks := tk }) :
    wpAny (model P w) A (Builtin.«set.__init__» ⟨[.ref s.heap.objs.size, .ref l], []⟩) Q E { s with heap := s.heap.push (set0 w) } := by
  have hisz : items.size = ks.length := by rw [← Array.length_toList, hit, List.length_map]
  have hS : (s.heap.push (set0 w)).get? s.heap.objs.size = some (set0 w) := Heap.get?_push_size _ rfl
  have hT : Shared.TypeIs { s with heap := s.heap.push (set0 w) } (.ref s.heap.objs.size) "set" := ⟨_, hS, rfl⟩
  obtain ⟨ol, hol, hcl, nl, hdl⟩ := hl
  obtain ⟨ocls, odict, odata, oslots⟩ := ol
  simp only at hcl hdl
  subst hcl
  subst hdl
  have hol' : (s.heap.push (set0 w)).get? l = some { cls := .type "list", dict := odict, data := .seq items nl, slots := oslots } := Heap.get?_push_of_some _ hol
  have hsls := F.sub_list_set
  have hslf := F.sub_list_frozenset
  have hne : (Value.type "list" == Value.type "dict") = false := by decide
  have hl1 : (s.heap.push (set0 w)).IsList l items := ⟨_, hol', rfl, nl, rfl⟩
  have hlS : l < s.heap.objs.size := Heap.lt_size hol
  unfold Builtin.«set.__init__» noKeywords Builtin.Frozenset.updateFrom
  generalize hPI : pyIter = PI
  wp_walk
  subst hPI
  refine wpAny_pyIter_list hl1 ?_
  refine wpAny_bind (wpAny_runValue ?_)
  have hh3 : A.in1.handled = none := by simp [hh]
  have hneI : l ≠ (s.heap.push (set0 w)).objs.size := by rw [Heap.size_push]; exact Nat.ne_of_lt (Nat.lt_succ_of_lt hlS)
  have hSf : s.heap.objs.size ∉ [(s.heap.push (set0 w)).objs.size, l] := by
    rw [Heap.size_push]
    simp only [List.mem_cons, List.not_mem_nil, or_false, not_or]
    exact ⟨Nat.ne_of_lt (Nat.lt_succ_self _), Nat.ne_of_gt hlS⟩
  have hval : ∀ (i : Nat) (v : Value), items[i]? = some v → ∃ p, ks[i]? = some p ∧ v = .ref p.1 := fun i v hv => by
    rw [← Array.getElem?_toList, hit, List.getElem?_map] at hv
    obtain ⟨p, hp, e⟩ := Option.map_eq_some_iff.mp hv
    exact ⟨p, hp, e.symm⟩
  have hget : ((s.heap.push (set0 w)).push { cls := .type "list_iterator", data := .fields #[.ref l, .int 0 0] }).get? s.heap.objs.size = some (set0 w) := Heap.get?_push_of_some _ hS
  refine update_k C ((Walks.list hh3 _ l hneI items).toS) s.heap.objs.size hSf ks hisz hfew hval s.heap hk (none_at (Nat.le_refl _)) (fun b hb => none_at (by
      rw [List.mem_singleton.mp hb, Heap.size_push]
      exact Nat.le_succ _)) hu (items.size - 0) 0 _ (by omega) (Nat.zero_le _)
    ⟨⟨_, Heap.get?_push_size _ rfl, rfl, rfl⟩, hl1.push _⟩ (fun b o e => Heap.get?_push_of_some _ (Heap.get?_push_of_some _ e))
    ⟨[], #[], 0, _, SetK.fresh hget, ⟨fun p h => (by cases h), fun p h => (by simp at h), Nat.le_refl _⟩⟩ ?_
  intro s' L es ep t hm hS' g' hkp
  obtain ⟨h', g2, d', tk', os'⟩ := s'
  have eg : g2 = s.gens := hm.gens
  have ed : d' = s.drawn := hm.drawn
  have eo : os' = s.os := hm.os
  subst eg
  subst ed
  subst eo
  rw [hisz] at g'
  exact wpAny_pure (h h' tk' L es ep t hS' g' hkp)
set_option maxHeartbeats 3200000 in
/-- set(xs) -/
theorem call_set_k (C : Calm kk) {l : Addr} {items : Array Value} (ks : List (Addr × List κ)) {Q : Value → Shared → Prop} (hh : A.handled = none) (hl : s.heap.IsList l items) (hit : items.toList = ks.map fun p => Value.ref p.1)
    (hk : ∀ p ∈ ks, IsTupleKey kk s.heap p.2 p.1) (hfew : ks.length ≤ 76) (hu : A.units + 3 < cLine)
    (h : ∀ (h' : Heap) (tk : Nat) L es ep t, SetK kk h' s.heap.objs.size L es ep t → GotK ks ks.length L → (∀ b o, s.heap.get? b = some o → h'.get? b = some o) → Q (.ref s.heap.objs.size) { s with heap := h', toks := tk }) :
    wpAny (model P w) A (call (.type "set") [.ref l]) Q E s := by
  obtain ⟨c, tl, hmro⟩ := F.called_set.mro
  have hmade := F.called_set.made
  have hsub := F.called_set.sub
  refine wpAny_call (codeAny_of_tree ?_)
  show wpAny _ _ (callAny (.type "set") _) _ _ _
  refine wpAny_pure ⟨Code.quiet_builtin _ (by decide +kernel), codeAny_builtin F.entry_type_call ?_⟩
  rw [Around.under_plain (weight_type_call_type "set" [.ref l] []) rfl]
  have h1 := F.called_set.notType
  have h2 := F.called_set.canCreate
  have hct := F.typeCall_set_1 (.ref l)
  repeat (any_goals (first | assumption | wp_step))
  refine codeAny_mono (code_set_led1 (.ref l) (E := E) (Q₁ := fun obj s₁ => obj = .ref s.heap.objs.size ∧ s₁ = { s with heap := s.heap.push (set0 w) }) ⟨rfl, rfl⟩) fun r s₁ hr => ?_
  cases r with
  | error e => exact hr
  | ok fl =>
    cases fl with
    | ret obj =>
      obtain ⟨rfl, rfl⟩ := hr
      have hS : (s.heap.push (set0 w)).get? s.heap.objs.size = some (set0 w) := Heap.get?_push_size _ rfl
      have hT : Shared.TypeIs { s with heap := s.heap.push (set0 w) } (.ref s.heap.objs.size) "set" := ⟨_, hS, rfl⟩
      have hli := F.called_set.init.lookup
      have hbi := F.called_set.init.bind (.ref s.heap.objs.size)
      repeat (any_goals (first | assumption | wp_step))
      refine codeAny_mono (codeAny_call_builtin (R := wants (fun r s₂ => r = .none ∧ ∃ h' tk L es ep t, s₂ = { s with heap := h', toks := tk } ∧ SetK kk h' s.heap.objs.size L es ep t ∧ GotK ks ks.length L ∧
          (∀ b o, s.heap.get? b = some o → h'.get? b = some o)) E) F.called_set.init.plain F.entry_set_init (check_set_init_1 hT ?_)) fun r₂ s₂ hr₂ => ?_
      · exact init_k C ks (by simp [hh]) hl hit hk hfew hu fun h' tk L es ep t hS' g' hkp => wpAny_pure ⟨rfl, h', tk, L, es, ep, t, rfl, hS', g', hkp⟩
      · cases r₂ with
        | error e => exact hr₂
        | ok fl₂ =>
          cases fl₂ with
          | ret r =>
            obtain ⟨rfl, h', tk, L, es, ep, t, rfl, hS', g', hk'⟩ := hr₂
            repeat (any_goals (first | assumption | wp_step))
            exact h _ _ _ _ _ _ hS' g' hk'
          | _ => exact hr₂.elim
    | _ => exact hr.elim
end
end
end DL
namespace DL
open PySem PySem.Spec PyProof.Rows L2
theorem items_strs {P : Program} {w : World} : ∀ {k : List Str} {us : List Value}, Vals (k.map V.str) us → ItemsAre (strKind P w) k us := by
  intro k
  induction k with
  | nil => intro us h; cases h; exact .nil
  | cons x k ih =>
    intro us h
    cases h with
    | cons r t =>
      obtain ⟨tk, rfl⟩ := r
      exact .cons (by show Value.isStrOf x (.str x tk) = true; simp [Value.isStrOf]) (ih t)
theorem keys_of {K : PySem.W.Frag} {H : Hp} {as : List Addr} : ∀ {ds : List D} {vs : List V} {ks : List (List Str)}, RepL K H as vs ds → ds.mapM strsOf = some ks → ∃ ps : List (Addr × List Str), vs = ps.map (fun p => V.ref p.1) ∧ ps.map (·.2) = ks ∧ ∀ p ∈ ps, SqT K H p.1 (p.2.map V.str)
  | [], _, _, r, h => by
    cases r
    rw [List.mapM_nil] at h
    cases h
    exact ⟨[], rfl, rfl, fun p hp => (by cases hp)⟩
  | d :: ds, _, _, r, h => by
    obtain ⟨k, ks, e1, e2, rfl⟩ := mapM_cons_some h
    cases r with
    | @cons v vs _ _ r1 r2 =>
      obtain ⟨ps, rfl, rfl, hp⟩ := keys_of r2 e2
      cases r1 with
      | @tup a us es h1 h2 =>
        have e3 := strsD_of h2 e1
        subst e3
        refine ⟨(a, k) :: ps, rfl, rfl, fun q hq => ?_⟩
        rcases List.mem_cons.mp hq with rfl | hq
        · exact h1
        · exact hp q hq
      | _ => cases e1
theorem refs_vals : ∀ {α : Type} {ks : List (Addr × α)} {us : List Value}, Vals (ks.map fun p => V.ref p.1) us → us = ks.map fun p => Value.ref p.1 := by
  intro α ks
  induction ks with
  | nil => intro us h; cases h; rfl
  | cons p ks ih =>
    intro us h
    cases h with
    | cons r t =>
      rw [ih t]
      cases r
      rfl
section
variable {X : Cx} {E : XK} {a : Expr} {fa : Cp D} {ta : TE} {p p2 pos pos2 : Pos}
def tLenSetK (K : PySem.W.Frag) (ta : TE) : TE := fun σ H Q => ta σ H fun x H1 => ∃ (l : Addr) (ks : List (Addr × List Str)), x = V.ref l ∧ SqL K H1 l (ks.map fun p => V.ref p.1) ∧ (∀ p ∈ ks, SqT K H1 p.1 (p.2.map V.str)) ∧ ks.length ≤ 76 ∧ Q (.int ((distK (ks.map (·.2))).length : Nat)) H1
theorem pe_lenSetK (hc : X.calm = true) (hu : X.A.units + 64 < cLine) (hg : Gl X "len") (hm : X.mg "len" = none) (hg2 : Gl X "set") (hm2 : X.mg "set" = none) (ha : PE X a ta)
    (na : starEach [a] X.env = (false, eval a X.env) :: starEach [] X.env := by rfl) : PE X (.Call (.Name "len" p) [.Call (.Name "set" p2) [a] [] pos2] [] pos) (tLenSetK X.K ta) := by
  refine ⟨fun pins s σ H Q I h => ?_⟩
  refine Call_ (ld_blt I hg hm PySem.boot_len ?_)
  refine PyProof.Rows.callWith_builtin1 (PyProof.Rows.args_cons ?_ rfl) rfl rfl
  refine Call_ (ld_blt I hg2 hm2 PyProof.Rows.boot_set ?_)
  refine PyProof.Rows.callWith_type1 (PyProof.Rows.args_cons (thn (ha.run pins s σ H _ I h) fun v s1 ⟨x, H1, I1, r1, q1⟩ => PyProof.Rows.args_nil ?_) na) na rfl
  obtain ⟨l, ks, rfl, hq, hk, hz, q1⟩ := q1
  cases r1
  obtain ⟨its, r, pl, _⟩ := I1.list hq
  refine call_set_k (P := X.prog) (w := X.w) calm_str ks (I1.ok.hd hc) pl.isList (by simpa using refs_vals r) (fun q hq => ?_) hz (by omega) fun h' tk L es ep t R g hkp => ?_
  · obtain ⟨its, r, ⟨o, ho, hcl, n, hd⟩, _⟩ := I1.tuple (hk q hq)
    exact ⟨o, its.toArray, n, ho, hcl, hd, by simpa using items_strs r⟩
  · refine PyProof.Rows.args_nil ?_
    obtain ⟨o, ho, hex, hd⟩ := R.ob
    have hsz : es.size = (distK (ks.map (·.2))).length := by
      rw [rows_size R.rows, ← List.length_map (f := (·.2))]
      refine List.Perm.length_eq ((List.perm_ext_iff_of_nodup R.nd distK_nodup).mpr fun k => ?_)
      rw [distK_mem]
      constructor
      · intro hk
        obtain ⟨q, hq, rfl⟩ := List.mem_map.mp hk
        exact List.mem_map.mpr ⟨q, List.mem_of_mem_take (g.sub q hq), rfl⟩
      · intro hk
        obtain ⟨q, hq, rfl⟩ := List.mem_map.mp hk
        exact g.all q (by rw [List.take_length]; exact hq)
    have I2 : Inv X pins σ H1 { s1 with heap := h', toks := tk } := I1.kept fun b o e => hkp b o e
    have hle := distK_le (l := ks.map (·.2))
    rw [List.length_map] at hle
    refine call_len_set ho hex hd (SetK.fits (s := { s1 with heap := h', toks := tk }) R) (by rw [hsz]; omega) ⟨.int ((distK (ks.map (·.2))).length : Nat), H1, I2.tok _, ⟨_, by rw [hsz]⟩, q1⟩
theorem d_lenSet (hu : X.A.units + 64 < cLine) (hm : X.mg "len" = none) (hm2 : X.mg "set" = none) (ha : PE X a (tD (cX X E) fa)) (hg : Gl X "len" := by rfl) (hg2 : Gl X "set" := by rfl) (hc : X.calm = true := by rfl) (na : starEach [a] X.env = (false, eval a X.env) :: starEach [] X.env := by rfl) :
    PE X (.Call (.Name "len" p) [.Call (.Name "set" p2) [a] [] pos2] [] pos) (tD (cX X E) (eLenSet fa)) :=
  (pe_lenSetK hc hu hg hm hg2 hm2 ha na).imp fun σ H Q ⟨as, M, ρ, w, M', hs, hm, hf, hp⟩ =>
    run_bind hs hm hf hp fun as1 v H1 d M1 e1 s1 m1 r1 f1 p1 => by
      obtain ⟨z, rfl, hz⟩ := run_mem f1
      cases r1 with
      | @ref q l h1 =>
        have hz' : (match M1[l]? with
          | some (.lst xs) => match xs.mapM strsOf with
            | some ks => if ks.length ≤ 76 then some (D.int ((distK ks).length : Nat), M1) else none
            | none => none
          | _ => none) = some (z, M') := hz
        split at hz'
        · rename_i xs e
          split at hz'
          · rename_i ks ek
            split at hz'
            · rename_i hl
              cases hz'
              obtain ⟨vs, e2, r2⟩ := m1.ob _ _ _ h1 e
              obtain ⟨ps, rfl, rfl, hps⟩ := keys_of r2 ek
              rw [List.length_map] at hl
              exact ⟨q, ps, rfl, SqL.of e2, hps, hl, p1.ok m1 (.int _)⟩
            · cases hz'
          · cases hz'
        · cases hz'
      | _ => cases hz
end
end DL

namespace DL
open PySem PySem.Spec PyProof.Rows L2

/-! ### what a function comes to -/
def wE {α : Type} (f : Cp α) (ρ : En) (M : Mem) (Q : α → Mem → Prop) : Prop := ∃ a M', f ρ M = some (.ok a, M') ∧ Q a M'
def okR : Rr → Prop
  | .ex _ => False
  | _ => True
def wS (g : Sm) (ρ : En) (M : Mem) (Q : Rr → En → Mem → Prop) : Prop := ∃ r ρ' M', g ρ M = some (r, ρ', M') ∧ okR r ∧ Q r ρ' M'
def wF (F : Fn) (ds : List D) (M : Mem) (Q : D → Mem → Prop) : Prop := ∃ d M', F ds M = some (.ok d, M') ∧ Q d M'
def wM {α : Type} (o : Option (α × Mem)) (Q : α → Mem → Prop) : Prop := ∃ a M', o = some (a, M') ∧ Q a M'
section
variable {α β : Type} {f : Cp α} {k : α → Cp β} {g h : Sm} {ρ : En} {M : Mem}
theorem wE.imp {Q Q' : α → Mem → Prop} (h : wE f ρ M Q) (i : ∀ a M', Q a M' → Q' a M') : wE f ρ M Q' := by
  obtain ⟨a, M', e, q⟩ := h
  exact ⟨a, M', e, i a M' q⟩
theorem wS.imp {Q Q' : Rr → En → Mem → Prop} (h : wS g ρ M Q) (i : ∀ a ρ' M', Q a ρ' M' → Q' a ρ' M') : wS g ρ M Q' := by
  obtain ⟨a, ρ', M', e, o, q⟩ := h
  exact ⟨a, ρ', M', e, o, i a ρ' M' q⟩
theorem wF.imp {F : Fn} {ds : List D} {Q Q' : D → Mem → Prop} (h : wF F ds M Q) (i : ∀ a M', Q a M' → Q' a M') : wF F ds M Q' := by
  obtain ⟨a, M', e, q⟩ := h
  exact ⟨a, M', e, i a M' q⟩
@[simp] theorem wM_some {a : α} {Q : α → Mem → Prop} : wM (some (a, M)) Q ↔ Q a M := by
  constructor
  · rintro ⟨_, _, e, q⟩; cases e; exact q
  · intro q; exact ⟨_, _, rfl, q⟩
theorem wM_if {c : Prop} [Decidable c] {a : α} {Q : α → Mem → Prop} : wM (if c then some (a, M) else none) Q ↔ c ∧ Q a M := by
  by_cases h : c
  · rw [if_pos h, wM_some]; exact ⟨fun q => ⟨h, q⟩, fun q => q.2⟩
  · rw [if_neg h]; exact ⟨fun ⟨_, _, e, _⟩ => (by cases e), fun q => (h q.1).elim⟩
theorem wE_bind {Q : β → Mem → Prop} : wE (bindC f k) ρ M Q ↔ wE f ρ M fun a M1 => wE (k a) ρ M1 Q := by
  unfold wE bindC
  cases f ρ M with
  | none => exact ⟨fun ⟨_, _, e, _⟩ => (by cases e), fun ⟨_, _, e, _⟩ => by cases e⟩
  | some q =>
    obtain ⟨q, M1⟩ := q
    cases q with
    | error x => exact ⟨fun ⟨_, _, e, _⟩ => (by cases e), fun ⟨_, _, e, _⟩ => by cases e⟩
    | ok a => exact ⟨fun q => ⟨a, M1, rfl, q⟩, fun ⟨_, _, e, q⟩ => by cases e; exact q⟩
theorem wE_pure {a : α} {Q : α → Mem → Prop} : wE (pureC a) ρ M Q ↔ Q a M := by
  constructor
  · rintro ⟨_, _, e, q⟩; cases e; exact q
  · intro q; exact ⟨_, _, rfl, q⟩
theorem wE_mem {o : Mem → Option (α × Mem)} {Q : α → Mem → Prop} : wE (memC o) ρ M Q ↔ wM (o M) Q := by
  unfold wE memC wM
  cases o M with
  | none => exact ⟨fun ⟨_, _, e, _⟩ => (by cases e), fun ⟨_, _, e, _⟩ => by cases e⟩
  | some q =>
    obtain ⟨a, M1⟩ := q
    exact ⟨fun ⟨_, _, e, q⟩ => by cases e; exact ⟨_, _, rfl, q⟩, fun ⟨_, _, e, q⟩ => by cases e; exact ⟨_, _, rfl, q⟩⟩
theorem wE_var {i : Nat} {Q : D → Mem → Prop} : wE (eVar i) ρ M Q ↔ ∃ d, ρ[i]? = some (some d) ∧ Q d M := by
  unfold wE eVar
  split
  · rename_i d e
    constructor
    · rintro ⟨_, _, e', q⟩; cases e'; exact ⟨d, e, q⟩
    · rintro ⟨d', e', q⟩
      rw [e] at e'
      cases e'
      exact ⟨_, _, rfl, q⟩
  · rename_i hn
    constructor
    · rintro ⟨_, _, e', _⟩; cases e'
    · rintro ⟨d', e', _⟩; exact (hn d' e').elim
theorem wE_call {F : Fn} {t : Cp (List D)} {Q : D → Mem → Prop} : wE (eCall F t) ρ M Q ↔ wE t ρ M fun ds M1 => wF F ds M1 Q := wE_bind
theorem wE_bin {op : D → D → Mem → Option (D × Mem)} {a b : Cp D} {Q : D → Mem → Prop} : wE (eBin op a b) ρ M Q ↔ wE a ρ M fun x M1 => wE b ρ M1 fun y M2 => wM (op x y M2) Q := by
  unfold eBin
  simp only [wE_bind, wE_mem]
theorem wE_un {op : D → Mem → Option (D × Mem)} {a : Cp D} {Q : D → Mem → Prop} : wE (eUn op a) ρ M Q ↔ wE a ρ M fun x M1 => wM (op x M1) Q := by
  unfold eUn
  simp only [wE_bind, wE_mem]
theorem wE_nil {Q : List D → Mem → Prop} : wE aNil ρ M Q ↔ Q [] M := wE_pure
theorem wE_cons {a : Cp D} {t : Cp (List D)} {Q : List D → Mem → Prop} : wE (aCons a t) ρ M Q ↔ wE a ρ M fun x M1 => wE t ρ M1 fun xs M2 => Q (x :: xs) M2 := by
  unfold aCons
  simp only [wE_bind, wE_pure]
theorem wE_tup {t : Cp (List D)} {Q : D → Mem → Prop} : wE (eTup t) ρ M Q ↔ wE t ρ M fun xs M1 => xs.length ≤ sizeLine ∧ Q (.tup xs) M1 := by
  unfold eTup
  simp only [wE_bind, wE_mem, wM_if]
theorem wM_newL {xs : List D} {Q : D → Mem → Prop} : wM (newL xs M) Q ↔ xs.length ≤ sizeLine ∧ Q (.ref M.length) (M ++ [.lst xs]) := wM_if
theorem wE_lst {t : Cp (List D)} {Q : D → Mem → Prop} : wE (eLst t) ρ M Q ↔ wE t ρ M fun xs M1 => xs.length ≤ sizeLine ∧ Q (.ref M1.length) (M1 ++ [.lst xs]) := by
  unfold eLst
  simp only [wE_bind, wE_mem, wM_newL]
theorem wE_cb {g : List D → Mem → Option (D × Mem)} {t : Cp (List D)} {Q : D → Mem → Prop} : wE (eCB g t) ρ M Q ↔ wE t ρ M fun xs M1 => wM (g xs M1) Q := by
  unfold eCB
  simp only [wE_bind, wE_mem]
theorem wE_lenSet {e : Cp D} {Q : D → Mem → Prop} : wE (eLenSet e) ρ M Q ↔ wE e ρ M fun d M1 => wM (cLenSet [d] M1) Q := by
  unfold eLenSet
  simp only [wE_bind, wE_mem]
theorem wE_meth {T : String} {g : D → List D → Mem → Option (D × Mem)} {o : Cp D} {t : Cp (List D)} {Q : D → Mem → Prop} : wE (eMeth T g o t) ρ M Q ↔ wE o ρ M fun x M1 => tyD M1 x = some T ∧ wE t ρ M1 fun xs M2 => wM (g x xs M2) Q := by
  unfold eMeth
  rw [wE_bind]
  have : ∀ x M1, wE (fun ρ M => if tyD M x = some T then bindC t (fun xs => memC (g x xs)) ρ M else none) ρ M1 Q ↔ tyD M1 x = some T ∧ wE t ρ M1 fun xs M2 => wM (g x xs M2) Q := fun x M1 => by
    unfold wE
    by_cases h : tyD M1 x = some T
    · simp only [h, if_true, true_and]
      exact (show wE (bindC t fun xs => memC (g x xs)) ρ M1 Q ↔ _ by simp only [wE_bind, wE_mem]; exact Iff.rfl)
    · simp only [h, if_false, false_and]
      exact ⟨fun ⟨_, _, e, _⟩ => (by cases e), fun z => z.elim⟩
  exact ⟨fun q => q.imp fun x M1 z => (this x M1).mp z, fun q => q.imp fun x M1 z => (this x M1).mpr z⟩
/-! tests -/
theorem wE_tOfE {e : Cp D} {Q : Bool → Mem → Prop} : wE (tOfE e) ρ M Q ↔ wE e ρ M fun x M1 => ∃ b, x = .bl b ∧ Q b M1 := by
  unfold tOfE
  rw [wE_bind]
  refine ⟨fun q => q.imp fun x M1 z => ?_, fun q => q.imp fun x M1 z => ?_⟩
  · cases x with
    | bl b => exact ⟨b, rfl, wE_pure.mp z⟩
    | _ => obtain ⟨_, _, e, _⟩ := z; cases e
  · obtain ⟨b, rfl, z⟩ := z
    exact wE_pure.mpr z
theorem wE_tTru {e : Cp D} {Q : Bool → Mem → Prop} : wE (tTru e) ρ M Q ↔ wE e ρ M fun x M1 => ∃ b, truD M1 x = some b ∧ Q b M1 := by
  unfold tTru
  rw [wE_bind]
  refine ⟨fun q => q.imp fun x M1 z => ?_, fun q => q.imp fun x M1 z => ?_⟩
  · obtain ⟨b, M2, e, z⟩ := z
    dsimp only at e
    split at e
    · cases e; exact ⟨_, by assumption, z⟩
    · cases e
  · obtain ⟨b, e, z⟩ := z
    exact ⟨b, M1, by dsimp only; rw [e], z⟩
theorem wE_tAnd {a b : Cp Bool} {Q : Bool → Mem → Prop} : wE (tAndD a b) ρ M Q ↔ wE a ρ M fun x M1 => if x = true then wE b ρ M1 Q else Q false M1 := by
  unfold tAndD
  rw [wE_bind]
  refine ⟨fun q => q.imp fun x M1 z => ?_, fun q => q.imp fun x M1 z => ?_⟩ <;> by_cases h : x = true
  · rw [if_pos h] at z ⊢; exact z
  · rw [if_neg h] at z ⊢; exact wE_pure.mp z
  · rw [if_pos h] at z ⊢; exact z
  · rw [if_neg h] at z ⊢; exact wE_pure.mpr z
theorem wE_tOr {a b : Cp Bool} {Q : Bool → Mem → Prop} : wE (tOrD a b) ρ M Q ↔ wE a ρ M fun x M1 => if x = true then Q true M1 else wE b ρ M1 Q := by
  unfold tOrD
  rw [wE_bind]
  refine ⟨fun q => q.imp fun x M1 z => ?_, fun q => q.imp fun x M1 z => ?_⟩ <;> by_cases h : x = true
  · rw [if_pos h] at z ⊢; exact wE_pure.mp z
  · rw [if_neg h] at z ⊢; exact z
  · rw [if_pos h] at z ⊢; exact wE_pure.mpr z
  · rw [if_neg h] at z ⊢; exact z
theorem wE_tNot {a : Cp Bool} {Q : Bool → Mem → Prop} : wE (tNotD a) ρ M Q ↔ wE a ρ M fun x M1 => Q (!x) M1 := by
  unfold tNotD
  simp only [wE_bind, wE_pure]
theorem wE_tYes {Q : Bool → Mem → Prop} : wE tYesD ρ M Q ↔ Q true M := wE_pure
theorem wE_if {t : Cp Bool} {a b : Cp D} {Q : D → Mem → Prop} : wE (eIf t a b) ρ M Q ↔ wE t ρ M fun x M1 => if x = true then wE a ρ M1 Q else wE b ρ M1 Q := by
  unfold eIf
  rw [wE_bind]
  refine ⟨fun q => q.imp fun x M1 z => ?_, fun q => q.imp fun x M1 z => ?_⟩ <;> by_cases h : x = true
  · rw [if_pos h] at z ⊢; exact z
  · rw [if_neg h] at z ⊢; exact z
  · rw [if_pos h] at z ⊢; exact z
  · rw [if_neg h] at z ⊢; exact z
theorem wE_fail {Q : α → Mem → Prop} : wE (failC : Cp α) ρ M Q ↔ False := ⟨fun ⟨_, _, e, _⟩ => (by cases e), fun z => z.elim⟩
theorem wE_and {a b : Cp D} {Q : D → Mem → Prop} : wE (eAndV a b) ρ M Q ↔ wE a ρ M fun x M1 => ∃ k, x = .bl k ∧ if k = true then wE b ρ M1 Q else Q (.bl false) M1 := by
  unfold eAndV
  rw [wE_bind]
  refine ⟨fun q => q.imp fun x M1 z => ?_, fun q => q.imp fun x M1 z => ?_⟩
  · split at z
    · exact ⟨true, rfl, z⟩
    · exact ⟨false, rfl, wE_pure.mp z⟩
    · exact (wE_fail.mp z).elim
  · obtain ⟨k, rfl, z⟩ := z
    cases k with
    | true => exact z
    | false => exact wE_pure.mpr z
theorem wE_or {a b : Cp D} {Q : D → Mem → Prop} : wE (eOrV a b) ρ M Q ↔ wE a ρ M fun x M1 => ∃ k, x = .bl k ∧ if k = true then Q (.bl true) M1 else wE b ρ M1 Q := by
  unfold eOrV
  rw [wE_bind]
  refine ⟨fun q => q.imp fun x M1 z => ?_, fun q => q.imp fun x M1 z => ?_⟩
  · split at z
    · exact ⟨true, rfl, wE_pure.mp z⟩
    · exact ⟨false, rfl, z⟩
    · exact (wE_fail.mp z).elim
  · obtain ⟨k, rfl, z⟩ := z
    cases k with
    | true => exact wE_pure.mpr z
    | false => exact z
theorem wE_not {a : Cp D} {Q : D → Mem → Prop} : wE (eNotV a) ρ M Q ↔ wE a ρ M fun x M1 => ∃ b, truD M1 x = some b ∧ Q (.bl (!b)) M1 := by
  unfold eNotV
  rw [wE_bind]
  refine ⟨fun q => q.imp fun x M1 z => ?_, fun q => q.imp fun x M1 z => ?_⟩
  · obtain ⟨b, M2, e, z⟩ := z
    dsimp only at e
    split at e
    · cases e; exact ⟨_, by assumption, z⟩
    · cases e
  · obtain ⟨b, e, z⟩ := z
    exact ⟨.bl (!b), M1, by dsimp only; rw [e], z⟩
/-! slices -/
theorem wE_oNo {Q : Option Int → Mem → Prop} : wE oNo ρ M Q ↔ Q none M := wE_pure
theorem wE_oSome {e : Cp D} {Q : Option Int → Mem → Prop} : wE (oSome e) ρ M Q ↔ wE e ρ M fun x M1 => ∃ i, x = .int i ∧ Q (some i) M1 := by
  unfold oSome
  rw [wE_bind]
  refine ⟨fun q => q.imp fun x M1 z => ?_, fun q => q.imp fun x M1 z => ?_⟩
  · split at z
    · exact ⟨_, rfl, wE_pure.mp z⟩
    · exact (wE_fail.mp z).elim
  · obtain ⟨i, rfl, z⟩ := z
    exact wE_pure.mpr z
theorem wE_sl {e : Cp D} {lo hi : Cp (Option Int)} {Q : D → Mem → Prop} : wE (eSl e lo hi) ρ M Q ↔ wE e ρ M fun d M1 => wE lo ρ M1 fun l M2 => wE hi ρ M2 fun h M3 => wM (opSl d l h M3) Q := by
  unfold eSl
  simp only [wE_bind, wE_mem]
/-! what is walked -/
theorem wE_iOf {t : Cp (List D)} {g : List D → Mem → Option Its} {Q : Its → Mem → Prop} : wE (iOf t g) ρ M Q ↔ wE t ρ M fun ds M1 => ∃ p, g ds M1 = some p ∧ Q p M1 := by
  unfold iOf
  rw [wE_bind]
  refine ⟨fun q => q.imp fun x M1 z => ?_, fun q => q.imp fun x M1 z => ?_⟩
  · obtain ⟨b, M2, e, z⟩ := z
    dsimp only at e
    split at e
    · cases e; exact ⟨_, by assumption, z⟩
    · cases e
  · obtain ⟨b, e, z⟩ := z
    exact ⟨b, M1, by dsimp only; rw [e], z⟩
theorem wE_iSeq {e : Cp D} {Q : Its → Mem → Prop} : wE (iSeq e) ρ M Q ↔ wE e ρ M fun d M1 => ∃ p, itSeq d M1 = some p ∧ Q p M1 := by
  unfold iSeq
  rw [wE_bind]
  refine ⟨fun q => q.imp fun x M1 z => ?_, fun q => q.imp fun x M1 z => ?_⟩
  · obtain ⟨b, M2, e, z⟩ := z
    dsimp only at e
    split at e
    · cases e; exact ⟨_, by assumption, z⟩
    · cases e
  · obtain ⟨b, e, z⟩ := z
    exact ⟨b, M1, by dsimp only; rw [e], z⟩
/-! statements -/
theorem wS_bind {k : α → Sm} {Q : Rr → En → Mem → Prop} : wS (bindS f k) ρ M Q ↔ wE f ρ M fun a M1 => wS (k a) ρ M1 Q := by
  unfold wS wE bindS
  cases f ρ M with
  | none => exact ⟨fun ⟨_, _, _, e, _⟩ => (by cases e), fun ⟨_, _, e, _⟩ => (by cases e)⟩
  | some q =>
    obtain ⟨q, M1⟩ := q
    cases q with
    | error x => exact ⟨fun ⟨_, _, _, e, o, _⟩ => (by cases e; exact o.elim), fun ⟨_, _, e, _⟩ => (by cases e)⟩
    | ok a => exact ⟨fun q => ⟨a, M1, rfl, q⟩, fun ⟨_, _, e, q⟩ => (by cases e; exact q)⟩
def after (k : Sm) (Q : Rr → En → Mem → Prop) : Rr → En → Mem → Prop := fun r ρ1 M1 => match r with
  | .nx => wS k ρ1 M1 Q
  | r => Q r ρ1 M1
theorem wS_seq {Q : Rr → En → Mem → Prop} : wS (seqS g h) ρ M Q ↔ wS g ρ M (after h Q) := by
  unfold wS seqS
  constructor
  · rintro ⟨r, ρ', M', e, o, q⟩
    split at e
    · rename_i ρ1 M1 e1
      exact ⟨.nx, ρ1, M1, e1, trivial, r, ρ', M', e, o, q⟩
    · rename_i r1 ρ1 M1 hn e1
      cases e
      refine ⟨r, ρ', M', e1, o, ?_⟩
      cases r with
      | nx => exact (hn rfl).elim
      | _ => exact q
    · cases e
  · rintro ⟨r, ρ', M', e, o, q⟩
    rw [e]
    cases r with
    | nx =>
      obtain ⟨r2, ρ2, M2, e2, o2, q2⟩ := q
      exact ⟨r2, ρ2, M2, e2, o2, q2⟩
    | _ => exact ⟨_, _, _, rfl, o, q⟩
@[simp] theorem after_nx {Q : Rr → En → Mem → Prop} : after h Q .nx ρ M ↔ wS h ρ M Q := Iff.rfl
@[simp] theorem after_rt {Q : Rr → En → Mem → Prop} {d : D} : after h Q (.rt d) ρ M ↔ Q (.rt d) ρ M := Iff.rfl
@[simp] theorem after_bk {Q : Rr → En → Mem → Prop} : after h Q .bk ρ M ↔ Q .bk ρ M := Iff.rfl
@[simp] theorem after_ct {Q : Rr → En → Mem → Prop} : after h Q .ct ρ M ↔ Q .ct ρ M := Iff.rfl
theorem wS_end {r : Rr} {Q : Rr → En → Mem → Prop} {ρ' : En} {M' : Mem} (e : g ρ M = some (r, ρ', M')) (o : okR r) : wS g ρ M Q ↔ Q r ρ' M' := by
  constructor
  · rintro ⟨_, _, _, e', _, q⟩
    rw [e] at e'
    cases e'
    exact q
  · intro q
    exact ⟨_, _, _, e, o, q⟩
theorem wS_nx {Q : Rr → En → Mem → Prop} : wS nxS ρ M Q ↔ Q .nx ρ M := wS_end rfl trivial
theorem wS_pass {Q : Rr → En → Mem → Prop} : wS sPass ρ M Q ↔ Q .nx ρ M := wS_nx
theorem wS_brk {Q : Rr → En → Mem → Prop} : wS sBrk ρ M Q ↔ Q .bk ρ M := wS_end rfl trivial
theorem wS_cont {Q : Rr → En → Mem → Prop} : wS sCont ρ M Q ↔ Q .ct ρ M := wS_end rfl trivial
theorem wS_retN {Q : Rr → En → Mem → Prop} : wS sRetN ρ M Q ↔ Q (.rt .non) ρ M := wS_end rfl trivial
theorem wE.iff {Q Q' : α → Mem → Prop} (h : ∀ a M, Q a M ↔ Q' a M) : wE f ρ M Q ↔ wE f ρ M Q' := ⟨fun z => z.imp fun a M => (h a M).mp, fun z => z.imp fun a M => (h a M).mpr⟩
theorem wS_expr {e : Cp D} {Q : Rr → En → Mem → Prop} : wS (sExpr e) ρ M Q ↔ wE e ρ M fun _ M1 => Q .nx ρ M1 := wS_bind.trans (wE.iff fun _ _ => wS_nx)
theorem wS_ret {e : Cp D} {Q : Rr → En → Mem → Prop} : wS (sRet e) ρ M Q ↔ wE e ρ M fun d M1 => Q (.rt d) ρ M1 := wS_bind.trans (wE.iff fun _ _ => wS_end rfl trivial)
theorem wS_asg {e : Cp D} {t : Tgt} {Q : Rr → En → Mem → Prop} : wS (sAsg e t) ρ M Q ↔ wE e ρ M fun d M1 => ∃ ρ', t.f d ρ = some ρ' ∧ Q .nx ρ' M1 := by
  refine wS_bind.trans (wE.iff fun d M1 => ?_)
  unfold wS
  dsimp only
  cases t.f d ρ with
  | none => exact ⟨fun ⟨_, _, _, e, _⟩ => (by cases e), fun ⟨_, e, _⟩ => (by cases e)⟩
  | some x => exact ⟨fun ⟨_, _, _, e, _, q⟩ => ⟨x, rfl, by cases e; exact q⟩, fun ⟨_, e, q⟩ => ⟨_, _, _, rfl, trivial, by cases e; exact q⟩⟩
theorem wS_set {e : Cp D} {i : Nat} {Q : Rr → En → Mem → Prop} : wS (sAsg e (gN i)) ρ M Q ↔ wE e ρ M fun d M1 => Q .nx (ρ.set i (some d)) M1 := by
  refine wS_asg.trans (wE.iff fun d M1 => ?_)
  exact ⟨fun ⟨_, e, q⟩ => (by cases e; exact q), fun q => ⟨_, rfl, q⟩⟩
theorem wS_par2 {t : Cp (List D)} {i j : Nat} {Q : Rr → En → Mem → Prop} : wS (sPar2 i j t) ρ M Q ↔ wE t ρ M fun ds M1 => ∃ a b, ds = [a, b] ∧ Q .nx ((ρ.set i (some a)).set j (some b)) M1 := by
  refine wS_bind.trans (wE.iff fun d M1 => ?_)
  unfold wS
  dsimp only
  split
  · exact ⟨fun ⟨_, _, _, e, _, q⟩ => ⟨_, _, rfl, by cases e; exact q⟩, fun ⟨_, _, e, q⟩ => ⟨_, _, _, rfl, trivial, by cases e; exact q⟩⟩
  · rename_i hn
    exact ⟨fun ⟨_, _, _, e, _⟩ => (by cases e), fun ⟨_, _, e, _⟩ => (hn _ _ e).elim⟩
theorem wS_par3 {t : Cp (List D)} {i j l : Nat} {Q : Rr → En → Mem → Prop} : wS (sPar3 i j l t) ρ M Q ↔ wE t ρ M fun ds M1 => ∃ a b c, ds = [a, b, c] ∧ Q .nx (((ρ.set i (some a)).set j (some b)).set l (some c)) M1 := by
  refine wS_bind.trans (wE.iff fun d M1 => ?_)
  unfold wS
  dsimp only
  split
  · exact ⟨fun ⟨_, _, _, e, _, q⟩ => ⟨_, _, _, rfl, by cases e; exact q⟩, fun ⟨_, _, _, e, q⟩ => ⟨_, _, _, rfl, trivial, by cases e; exact q⟩⟩
  · rename_i hn
    exact ⟨fun ⟨_, _, _, e, _⟩ => (by cases e), fun ⟨_, _, _, e, _⟩ => (hn _ _ _ e).elim⟩
theorem wS_sub {s : D → D → D → Mem → Option Mem} {e o i : Cp D} {Q : Rr → En → Mem → Prop} : wS (sSub s e o i) ρ M Q ↔ wE e ρ M fun w M1 => wE o ρ M1 fun d M2 => wE i ρ M2 fun j M3 => ∃ M', s d j w M3 = some M' ∧ Q .nx ρ M' := by
  refine wS_bind.trans (wE.iff fun w M1 => wS_bind.trans (wE.iff fun d M2 => wS_bind.trans (wE.iff fun j M3 => ?_)))
  unfold wS
  dsimp only
  cases s d j w M3 with
  | none => exact ⟨fun ⟨_, _, _, e, _⟩ => (by cases e), fun ⟨_, e, _⟩ => (by cases e)⟩
  | some x => exact ⟨fun ⟨_, _, _, e, _, q⟩ => ⟨x, rfl, by cases e; exact q⟩, fun ⟨_, e, q⟩ => ⟨_, _, _, rfl, trivial, by cases e; exact q⟩⟩
theorem wS_if {t : Cp Bool} {a b : Sm} {Q : Rr → En → Mem → Prop} : wS (sIf t a b) ρ M Q ↔ wE t ρ M fun x M1 => if x = true then wS a ρ M1 Q else wS b ρ M1 Q := by
  refine wS_bind.trans (wE.iff fun x M1 => ?_)
  by_cases h : x = true
  · rw [if_pos h, if_pos h]
  · rw [if_neg h, if_neg h]
theorem wS_cut {Q R : Rr → En → Mem → Prop} (h1 : wS g ρ M R) (h2 : ∀ r ρ' M', R r ρ' M' → after h Q r ρ' M') : wS (seqS g h) ρ M Q := wS_seq.mpr (h1.imp h2)
theorem gN_f {i : Nat} {d : D} : (gN i).f d ρ = some (ρ.set i (some d)) := rfl
theorem gT_f {n : Nat} {t : Tgts} {ds : List D} : (gT n t).f (.tup ds) ρ = if ds.length = n then t.f ds ρ else none := rfl
theorem gsNil_f : gsNil.f [] ρ = some ρ := rfl
theorem gsCons_f {t : Tgt} {u : Tgts} {d : D} {r : List D} : (gsCons t u).f (d :: r) ρ = match t.f d ρ with
    | some ρ1 => u.f r ρ1
    | none => none := rfl
/-! loops, by what holds between the turns -/
theorem wp_forL {tg : Tgt} {chk : Mem → Bool} {body : Sm} {Q : Rr → En → Mem → Prop} (I : Nat → En → Mem → Prop) : ∀ (xs : List D) (i : Nat) (ρ : En) (M : Mem), I i ρ M →
    (∀ j x ρ M, xs[j]? = some x → I (i + j) ρ M → chk M = true ∧ ∃ ρ1, tg.f x ρ = some ρ1 ∧ wS body ρ1 M fun r ρ' M' => match r with
      | .nx => I (i + j + 1) ρ' M'
      | .ct => I (i + j + 1) ρ' M'
      | .bk => Q .nx ρ' M'
      | r => Q r ρ' M') →
    (∀ ρ M, I (i + xs.length) ρ M → chk M = true ∧ Q .nx ρ M) → wS (forL tg chk body xs) ρ M Q
  | [], i, ρ, M, h0, hs, hd => by
    obtain ⟨hc, q⟩ := hd ρ M h0
    exact ⟨.nx, ρ, M, by unfold forL; rw [if_pos hc], trivial, q⟩
  | x :: xs, i, ρ, M, h0, hs, hd => by
    obtain ⟨hc, ρ1, et, r, ρ', M', eb, o, q⟩ := hs 0 x ρ M rfl h0
    have rest : I (i + 1) ρ' M' → wS (forL tg chk body xs) ρ' M' Q := fun h => wp_forL I xs (i + 1) ρ' M' h (fun j y ρ M hy hI => by
      have := hs (j + 1) y ρ M (by simpa using hy) (by rw [show i + (j + 1) = i + 1 + j by omega]; exact hI)
      rw [show i + (j + 1) + 1 = i + 1 + j + 1 by omega] at this
      exact this) fun ρ M hI => hd ρ M (by rw [List.length_cons, show i + (xs.length + 1) = i + 1 + xs.length by omega]; exact hI)
    cases r with
    | nx =>
      obtain ⟨r2, ρ2, M2, e2, q2⟩ := rest q
      exact ⟨r2, ρ2, M2, by unfold forL; rw [if_pos hc, et]; dsimp only; rw [eb]; exact e2, q2⟩
    | ct =>
      obtain ⟨r2, ρ2, M2, e2, q2⟩ := rest q
      exact ⟨r2, ρ2, M2, by unfold forL; rw [if_pos hc, et]; dsimp only; rw [eb]; exact e2, q2⟩
    | bk => exact ⟨.nx, ρ', M', by unfold forL; rw [if_pos hc, et]; dsimp only; rw [eb], trivial, q⟩
    | rt d => exact ⟨.rt d, ρ', M', by unfold forL; rw [if_pos hc, et]; dsimp only; rw [eb], trivial, q⟩
    | ex x => exact o.elim
/-- a for, its items told -/
theorem wS_for {it : Cp Its} {tg : Tgt} {body : Sm} {Q : Rr → En → Mem → Prop} : wS (sFor it tg body) ρ M Q ↔ wE it ρ M fun p M1 => wS (forL tg p.2 body p.1) ρ M1 Q := wS_bind
theorem wp_for0 {tg : Tgt} {chk : Mem → Bool} {body : Sm} {Q : Rr → En → Mem → Prop} {xs : List D} (I : Nat → En → Mem → Prop) (h0 : I 0 ρ M)
    (hs : ∀ j x ρ M, xs[j]? = some x → I j ρ M → chk M = true ∧ ∃ ρ1, tg.f x ρ = some ρ1 ∧ wS body ρ1 M fun r ρ' M' => match r with
      | .nx => I (j + 1) ρ' M'
      | .ct => I (j + 1) ρ' M'
      | .bk => Q .nx ρ' M'
      | r => Q r ρ' M')
    (hd : ∀ ρ M, I xs.length ρ M → chk M = true ∧ Q .nx ρ M) : wS (forL tg chk body xs) ρ M Q := wp_forL I xs 0 ρ M h0 (fun j x ρ M hx hI => by
      have := hs j x ρ M hx (by simpa using hI)
      simpa using this) fun ρ M hI => hd ρ M (by simpa using hI)
theorem wp_while {c : Cp Bool} {body : Sm} {Q : Rr → En → Mem → Prop} (I : Nat → En → Mem → Prop) (hs : ∀ m ρ M, I m ρ M → wE c ρ M fun b M1 => if b = true then 0 < m ∧ wS body ρ M1 fun r ρ' M' => match r with
      | .nx => ∃ m', m' < m ∧ I m' ρ' M'
      | .ct => ∃ m', m' < m ∧ I m' ρ' M'
      | .bk => Q .nx ρ' M'
      | r => Q r ρ' M' else Q .nx ρ M1) : ∀ (n m : Nat) (ρ : En) (M : Mem), m < n → I m ρ M → wS (whileF c body n) ρ M Q
  | 0, m, _, _, hn, _ => by omega
  | n + 1, m, ρ, M, hn, hI => by
    unfold whileF
    refine wS_bind.mpr ((hs m ρ M hI).imp fun b M1 q => ?_)
    by_cases hb : b = true
    · rw [if_pos hb] at q ⊢
      obtain ⟨hm, r, ρ', M', eb, o, q⟩ := q
      cases r with
      | nx =>
        obtain ⟨m', h1, h2⟩ := q
        obtain ⟨r2, ρ2, M2, e2, q2⟩ := wp_while I hs n m' ρ' M' (by omega) h2
        exact ⟨r2, ρ2, M2, by dsimp only; rw [eb]; exact e2, q2⟩
      | ct =>
        obtain ⟨m', h1, h2⟩ := q
        obtain ⟨r2, ρ2, M2, e2, q2⟩ := wp_while I hs n m' ρ' M' (by omega) h2
        exact ⟨r2, ρ2, M2, by dsimp only; rw [eb]; exact e2, q2⟩
      | bk => exact ⟨.nx, ρ', M', by dsimp only; rw [eb], trivial, q⟩
      | rt d => exact ⟨.rt d, ρ', M', by dsimp only; rw [eb], trivial, q⟩
      | ex x => exact o.elim
    · rw [if_neg hb] at q ⊢
      exact wS_nx.mpr q
/-! comprehensions -/
def wL (o : Option Mem) (Q : Mem → Prop) : Prop := ∃ M', o = some M' ∧ Q M'
theorem wE_lc {it : Cp Its} {tg : Tgt} {t : Cp Bool} {e : Cp D} {vs : List Nat} {Q : D → Mem → Prop} (h : wE it ρ M fun p M1 => wL (lcL tg p.2 t e M1.length p.1 (wipeE ρ vs) (M1 ++ [.lst []])) fun M' => Q (.ref M1.length) M') : wE (eLc it tg t e vs) ρ M Q := by
  unfold eLc
  refine wE_bind.mpr (h.imp fun p M1 ⟨M', e, q⟩ => ⟨_, M', by dsimp only; rw [e], q⟩)
/-- by what holds between the turns: the items kept so far, the memory -/
theorem wp_lc {tg : Tgt} {chk : Mem → Bool} {t : Cp Bool} {e : Cp D} {l : Nat} {ρ : En} {Q : Mem → Prop} (I : Nat → List D → Mem → Prop) : ∀ (xs : List D) (i : Nat) (acc : List D) (M : Mem), I i acc M →
    (∀ j x acc M, xs[j]? = some x → I (i + j) acc M → chk M = true ∧ ∃ ρ1, tg.f x ρ = some ρ1 ∧ wE t ρ1 M fun b M1 => if b = true then wE e ρ1 M1 (fun d M2 => M2[l]? = some (.lst acc) ∧ acc.length < sizeLine ∧ I (i + j + 1) (acc ++ [d]) (M2.set l (.lst (acc ++ [d])))) else I (i + j + 1) acc M1) →
    (∀ acc M, I (i + xs.length) acc M → chk M = true ∧ Q M) → wL (lcL tg chk t e l xs ρ M) Q
  | [], i, acc, M, h0, hs, hd => by
    obtain ⟨hc, q⟩ := hd acc M h0
    exact ⟨M, by unfold lcL; rw [if_pos hc], q⟩
  | x :: xs, i, acc, M, h0, hs, hd => by
    obtain ⟨hc, ρ1, et, b, M1, eb, q⟩ := hs 0 x acc M rfl h0
    have rest : ∀ acc' M', I (i + 1) acc' M' → wL (lcL tg chk t e l xs ρ M') Q := fun acc' M' h => wp_lc I xs (i + 1) acc' M' h (fun j y acc M hy hI => by
      have := hs (j + 1) y acc M (by simpa using hy) (by rw [show i + (j + 1) = i + 1 + j by omega]; exact hI)
      rw [show i + (j + 1) + 1 = i + 1 + j + 1 by omega] at this
      exact this) fun acc M hI => hd acc M (by rw [List.length_cons, show i + (xs.length + 1) = i + 1 + xs.length by omega]; exact hI)
    cases b with
    | true =>
      rw [if_pos rfl] at q
      obtain ⟨d, M2, ee, el, hl, q⟩ := q
      obtain ⟨M', e2, q2⟩ := rest _ _ q
      exact ⟨M', by unfold lcL; rw [if_pos hc, et]; dsimp only; rw [eb]; dsimp only; rw [ee]; dsimp only; rw [el]; dsimp only; rw [if_pos hl]; exact e2, q2⟩
    | false =>
      rw [if_neg Bool.false_ne_true] at q
      obtain ⟨M', e2, q2⟩ := rest _ _ q
      exact ⟨M', by unfold lcL; rw [if_pos hc, et]; dsimp only; rw [eb]; exact e2, q2⟩
theorem wp_lc0 {tg : Tgt} {chk : Mem → Bool} {t : Cp Bool} {e : Cp D} {l : Nat} {ρ : En} {Q : Mem → Prop} {xs : List D} (I : Nat → List D → Mem → Prop) (h0 : I 0 [] M)
    (hs : ∀ j x acc M, xs[j]? = some x → I j acc M → chk M = true ∧ ∃ ρ1, tg.f x ρ = some ρ1 ∧ wE t ρ1 M fun b M1 => if b = true then wE e ρ1 M1 (fun d M2 => M2[l]? = some (.lst acc) ∧ acc.length < sizeLine ∧ I (j + 1) (acc ++ [d]) (M2.set l (.lst (acc ++ [d])))) else I (j + 1) acc M1)
    (hd : ∀ acc M, I xs.length acc M → chk M = true ∧ Q M) : wL (lcL tg chk t e l xs ρ M) Q := wp_lc I xs 0 [] M h0 (fun j x acc M hx hI => by
      have := hs j x acc M hx (by simpa using hI)
      simpa using this) fun acc M hI => hd acc M (by simpa using hI)
/-! defs -/
theorem wF_fn {N n : Nat} {body : Sm} {ds : List D} {Q : D → Mem → Prop} (hl : ds.length = n) (h : wS body (ds.map some ++ List.replicate (N - n) none) M fun r _ M' => match r with
    | .rt d => Q d M'
    | .nx => Q .non M'
    | _ => False) : wF (fn0 (fnOf N n body)) ds M Q := by
  obtain ⟨r, ρ', M', e, o, q⟩ := h
  cases r with
  | rt d => exact ⟨d, M', by unfold fn0 fnOf; rw [if_pos hl, e], q⟩
  | nx => exact ⟨.non, M', by unfold fn0 fnOf; rw [if_pos hl, e], q⟩
  | _ => exact False.elim q
end
end DL

namespace DL
open PySem PySem.Spec PyProof.Rows L2

/-! ### plain values: numbers, texts, None, tuples of these -/
mutual
def tp : D → PyData
  | .non => .none
  | .bl b => .bool b
  | .int i => .int i
  | .str x => .str x
  | .tup xs => .tuple (tpL xs)
  | .fls xs => .list (tpL xs)
  | .ref _ => .none
  | .ty _ => .none
def tpL : List D → List PyData
  | [] => []
  | x :: xs => tp x :: tpL xs
end
theorem tpL_map : ∀ xs : List D, tpL xs = xs.map tp
  | [] => rfl
  | x :: xs => by rw [tpL, tpL_map xs]; rfl
/-- plain, nested to n at most -/
def pln : Nat → D → Bool
  | _, .non => true
  | _, .int _ => true
  | _, .str x => PyData.strOk x
  | n + 1, .tup xs => xs.all (pln n)
  | _, _ => false
theorem pln_mono {n : Nat} : ∀ {d : D} (m : Nat), n ≤ m → pln n d = true → pln m d = true := by
  induction n with
  | zero =>
    intro d m _ h
    cases d <;> first | (cases m <;> exact h) | (cases h)
  | succ n ih =>
    intro d m hm h
    obtain ⟨m, rfl⟩ : ∃ k, m = k + 1 := ⟨m - 1, by omega⟩
    cases d with
    | tup xs =>
      have h' : xs.all (pln n) = true := h
      show xs.all (pln m) = true
      rw [List.all_eq_true] at h' ⊢
      exact fun x hx => ih m (by omega) (h' x hx)
    | _ => exact h
theorem mapM_all {α β : Type} {f : α → Option β} {g : α → β} : ∀ {xs : List α}, (∀ x ∈ xs, f x = some (g x)) → xs.mapM f = some (xs.map g)
  | [], _ => by rw [List.mapM_nil]; rfl
  | x :: xs, h => by
    rw [List.mapM_cons, h x List.mem_cons_self, mapM_all fun y hy => h y (List.mem_cons_of_mem _ hy)]
    rfl
theorem toP_pln {M : Mem} {n : Nat} : ∀ {d : D} {m : Nat}, n < m → pln n d = true → toP M m d = some (tp d) := by
  induction n with
  | zero =>
    intro d m hm h
    obtain ⟨m, rfl⟩ : ∃ k, m = k + 1 := ⟨m - 1, by omega⟩
    cases d <;> first | rfl | cases h
  | succ n ih =>
    intro d m hm h
    obtain ⟨m, rfl⟩ : ∃ k, m = k + 1 := ⟨m - 1, by omega⟩
    cases d with
    | tup xs =>
      have h' : xs.all (pln n) = true := h
      rw [List.all_eq_true] at h'
      show (xs.mapM (toP M m)).map PyData.tuple = some (.tuple (tpL xs))
      rw [mapM_all (g := tp) fun x hx => ih (by omega) (h' x hx), tpL_map]
      rfl
    | non => rfl
    | int i => rfl
    | str x => rfl
    | _ => cases h
theorem lay_all : ∀ {ps : List PyData}, (∀ p ∈ ps, p.canLay0 = true) → PyData.canLayAll0 ps = true
  | [], _ => by simp [PyData.canLayAll0]
  | p :: ps, h => by rw [PyData.canLayAll0, h p List.mem_cons_self, lay_all fun q hq => h q (List.mem_cons_of_mem _ hq)]; rfl
theorem depth_all {n : Nat} : ∀ {ps : List PyData}, (∀ p ∈ ps, p.depth ≤ n) → PyData.depthAll ps ≤ n
  | [], _ => by simp [PyData.depthAll]
  | p :: ps, h => by
    rw [PyData.depthAll]
    have h1 := h p List.mem_cons_self
    have h2 := depth_all fun q hq => h q (List.mem_cons_of_mem _ hq)
    omega
theorem lay_pln {n : Nat} : ∀ {d : D}, pln n d = true → (tp d).canLay0 = true ∧ (tp d).depth ≤ n + 1 := by
  induction n with
  | zero =>
    intro d h
    cases d with
    | non => exact ⟨by simp [tp, PyData.canLay0], by simp [tp, PyData.depth]⟩
    | int i => exact ⟨by simp [tp, PyData.canLay0], by simp [tp, PyData.depth]⟩
    | str x => exact ⟨by rw [tp, PyData.canLay0]; exact h, by simp [tp, PyData.depth]⟩
    | _ => cases h
  | succ n ih =>
    intro d h
    cases d with
    | non => exact ⟨by simp [tp, PyData.canLay0], by simp [tp, PyData.depth]⟩
    | int i => exact ⟨by simp [tp, PyData.canLay0], by simp [tp, PyData.depth]⟩
    | str x => exact ⟨by rw [tp, PyData.canLay0]; exact h, by simp [tp, PyData.depth]⟩
    | tup xs =>
      have h' : xs.all (pln n) = true := h
      rw [List.all_eq_true] at h'
      refine ⟨?_, ?_⟩
      · rw [tp, PyData.canLay0, tpL_map]
        refine lay_all fun p hp => ?_
        obtain ⟨x, hx, rfl⟩ := List.mem_map.mp hp
        exact (ih (h' x hx)).1
      · rw [tp, PyData.depth, tpL_map]
        have : PyData.depthAll (xs.map tp) ≤ n + 1 := depth_all fun p hp => by
          obtain ⟨x, hx, rfl⟩ := List.mem_map.mp hp
          exact (ih (h' x hx)).2
        omega
    | _ => cases h
theorem shaped_pln {n : Nat} {d : D} (h : pln n d = true) (hn : n ≤ 50) : SeqAt.shaped (tp d) = true := by
  obtain ⟨h1, h2⟩ := lay_pln h
  unfold SeqAt.shaped
  rw [h1, decide_eq_true (by omega)]
  rfl
theorem eqv_pln {n : Nat} : ∀ {d e : D}, pln n d = true → pln n e = true → PyData.eqv (tp d) (tp e) = decide (d = e) := by
  have base : ∀ {d e : D}, (∀ xs, d ≠ .tup xs) → (∀ xs, e ≠ .tup xs) → pln 0 d = true → pln 0 e = true → PyData.eqv (tp d) (tp e) = decide (d = e) := by
    intro d e hd he h1 h2
    cases d with
    | non =>
      cases e with
      | non => simp [tp, PyData.eqv]
      | int j => simp [tp, PyData.eqv]
      | str y => simp [tp, PyData.eqv]
      | _ => cases h2
    | int i =>
      cases e with
      | non => simp [tp, PyData.eqv]
      | int j =>
        show (i == j) = _
        by_cases q : i = j
        · subst q; simp
        · simp [q]
      | str y => simp [tp, PyData.eqv]
      | _ => cases h2
    | str x =>
      cases e with
      | non => simp [tp, PyData.eqv]
      | int j => simp [tp, PyData.eqv]
      | str y =>
        show (x == y) = _
        by_cases q : x = y
        · subst q; simp
        · simp [q]
      | _ => cases h2
    | _ => cases h1
  induction n with
  | zero =>
    intro d e h1 h2
    exact base (fun xs z => by subst z; cases h1) (fun xs z => by subst z; cases h2) h1 h2
  | succ n ih =>
    intro d e h1 h2
    cases d with
    | tup xs =>
      cases e with
      | tup ys =>
        have h1' : xs.all (pln n) = true := h1
        have h2' : ys.all (pln n) = true := h2
        have all : ∀ (xs ys : List D), xs.all (pln n) = true → ys.all (pln n) = true → PyData.eqvAll (tpL xs) (tpL ys) = decide (xs = ys) := by
          intro xs
          induction xs with
          | nil =>
            intro ys _ _
            cases ys with
            | nil => simp [tpL, PyData.eqvAll]
            | cons y ys => simp [tpL, PyData.eqvAll]
          | cons x xs ihx =>
            intro ys hx hy
            cases ys with
            | nil => simp [tpL, PyData.eqvAll]
            | cons y ys =>
              rw [List.all_cons, Bool.and_eq_true] at hx hy
              rw [tpL, tpL, PyData.eqvAll, ih hx.1 hy.1, ihx ys hx.2 hy.2]
              simp
        rw [tp, tp, PyData.eqv, all xs ys h1' h2']
        simp
      | non => simp [tp, PyData.eqv]
      | int i => simp [tp, PyData.eqv]
      | str x => simp [tp, PyData.eqv]
      | _ => cases h2
    | non =>
      cases e with
      | tup ys => simp [tp, PyData.eqv]
      | _ => first | exact base (by intro xs z; cases z) (by intro xs z; cases z) rfl h2 | cases h2
    | int i =>
      cases e with
      | tup ys => simp [tp, PyData.eqv]
      | _ => first | exact base (by intro xs z; cases z) (by intro xs z; cases z) rfl h2 | cases h2
    | str x =>
      cases e with
      | tup ys => simp [tp, PyData.eqv]
      | _ => first | exact base (by intro xs z; cases z) (by intro xs z; cases z) h1 h2 | cases h2
    | _ => cases h1
/-- == of plain values -/
theorem eq_pln {M : Mem} {d e : D} (h1 : pln 40 d = true) (h2 : pln 40 e = true) : opEq d e M = some (.bl (decide (d = e)), M) := by
  have e1 : toPy M d = some (tp d) := toP_pln (n := 40) (by decide) h1
  have e2 : toPy M e = some (tp e) := toP_pln (n := 40) (by decide) h2
  unfold opEq
  rw [e1, e2]
  dsimp only
  rw [if_pos ⟨shaped_pln h1 (by decide), shaped_pln h2 (by decide)⟩, eqv_pln h1 h2]
theorem ne_pln {M : Mem} {d e : D} (h1 : pln 40 d = true) (h2 : pln 40 e = true) : opNe d e M = some (.bl (!decide (d = e)), M) := by
  have e1 : toPy M d = some (tp d) := toP_pln (n := 40) (by decide) h1
  have e2 : toPy M e = some (tp e) := toP_pln (n := 40) (by decide) h2
  unfold opNe
  rw [e1, e2]
  dsimp only
  rw [if_pos ⟨shaped_pln h1 (by decide), shaped_pln h2 (by decide)⟩, eqv_pln h1 h2]
theorem eq_int {M : Mem} {i j : Int} : opEq (.int i) (.int j) M = some (.bl (decide (i = j)), M) := by rw [eq_pln rfl rfl]; simp
theorem ne_int {M : Mem} {i j : Int} : opNe (.int i) (.int j) M = some (.bl (!decide (i = j)), M) := by rw [ne_pln rfl rfl]; simp
theorem eq_str {M : Mem} {i j : Str} (h1 : PyData.strOk i = true) (h2 : PyData.strOk j = true) : opEq (.str i) (.str j) M = some (.bl (decide (i = j)), M) := by rw [eq_pln (d := .str i) (e := .str j) h1 h2]; simp
theorem ne_str {M : Mem} {i j : Str} (h1 : PyData.strOk i = true) (h2 : PyData.strOk j = true) : opNe (.str i) (.str j) M = some (.bl (!decide (i = j)), M) := by rw [ne_pln (d := .str i) (e := .str j) h1 h2]; simp
/-! lists of plain values -/
theorem toPy_ref {M : Mem} {l : Nat} {xs : List D} (h : M[l]? = some (.lst xs)) (hx : xs.all (pln 39) = true) : toPy M (.ref l) = some (.list (xs.map tp)) := by
  show (match M[l]? with
    | some (.lst xs) => (xs.mapM (toP M 69)).map PyData.list
    | _ => none) = _
  rw [h]
  dsimp only
  rw [mapM_all (g := tp) fun x hx' => toP_pln (n := 39) (by decide) (List.all_eq_true.mp hx x hx')]
  rfl
theorem shaped_list {xs : List D} (hx : xs.all (pln 39) = true) : SeqAt.shaped (.list (xs.map tp)) = true := by
  have h1 : PyData.canLayAll0 (xs.map tp) = true := lay_all fun p hp => by
    obtain ⟨x, hx', rfl⟩ := List.mem_map.mp hp
    exact (lay_pln (List.all_eq_true.mp hx x hx')).1
  have h2 : PyData.depthAll (xs.map tp) ≤ 40 := depth_all fun p hp => by
    obtain ⟨x, hx', rfl⟩ := List.mem_map.mp hp
    exact (lay_pln (List.all_eq_true.mp hx x hx')).2
  unfold SeqAt.shaped
  rw [PyData.canLay0, h1, PyData.depth, decide_eq_true (by omega)]
  rfl
theorem shaped_tuple {xs : List D} (hx : xs.all (pln 39) = true) : SeqAt.shaped (.tuple (xs.map tp)) = true := by
  have := shaped_pln (n := 40) (d := .tup xs) hx (by decide)
  rw [tp, tpL_map] at this
  exact this
theorem eqvAll_pln : ∀ {xs ys : List D}, xs.all (pln 39) = true → ys.all (pln 39) = true → PyData.eqvAll (xs.map tp) (ys.map tp) = decide (xs = ys) := fun {xs ys} h1 h2 => by
  have := eqv_pln (n := 40) (d := .tup xs) (e := .tup ys) h1 h2
  rw [tp, tp, PyData.eqv, tpL_map, tpL_map] at this
  rw [this]
  simp
theorem eq_lst {M : Mem} {l k : Nat} {xs ys : List D} (h1 : M[l]? = some (.lst xs)) (h2 : M[k]? = some (.lst ys)) (hx : xs.all (pln 39) = true) (hy : ys.all (pln 39) = true) : opEq (.ref l) (.ref k) M = some (.bl (decide (xs = ys)), M) := by
  unfold opEq
  rw [toPy_ref h1 hx, toPy_ref h2 hy]
  dsimp only
  rw [if_pos ⟨shaped_list hx, shaped_list hy⟩, PyData.eqv, eqvAll_pln hx hy]
theorem ne_lst {M : Mem} {l k : Nat} {xs ys : List D} (h1 : M[l]? = some (.lst xs)) (h2 : M[k]? = some (.lst ys)) (hx : xs.all (pln 39) = true) (hy : ys.all (pln 39) = true) : opNe (.ref l) (.ref k) M = some (.bl (!decide (xs = ys)), M) := by
  unfold opNe
  rw [toPy_ref h1 hx, toPy_ref h2 hy]
  dsimp only
  rw [if_pos ⟨shaped_list hx, shaped_list hy⟩, PyData.eqv, eqvAll_pln hx hy]
/-- in a list, in a tuple -/
theorem any_eqv {d : D} {xs : List D} (hd : pln 39 d = true) (hx : xs.all (pln 39) = true) : ((xs.map tp).any fun z => PyData.eqv z (tp d)) = decide (d ∈ xs) := by
  induction xs with
  | nil => simp
  | cons x xs ih =>
    rw [List.all_cons, Bool.and_eq_true] at hx
    rw [List.map_cons, List.any_cons, ih hx.2, eqv_pln hx.1 hd]
    by_cases e : x = d
    · subst e; simp
    · have e' : ¬ d = x := fun z => e z.symm
      simp [e, e']
theorem inB_ref {M : Mem} {d : D} {l : Nat} {xs : List D} (h : M[l]? = some (.lst xs)) (hd : pln 39 d = true) (hx : xs.all (pln 39) = true) : opInB d (.ref l) M = some (decide (d ∈ xs)) := by
  have e1 : toPy M d = some (tp d) := toP_pln (n := 39) (by decide) hd
  have e2 := toPy_ref h hx
  have e3 := shaped_pln hd (by decide)
  have e4 := shaped_list hx
  unfold opInB
  split
  · rename_i z; cases z
  · rename_i x y hn
    rw [e1, e2]
    dsimp only
    rw [if_pos ⟨e3, e4⟩, any_eqv hd hx]
theorem inB_tup {M : Mem} {d : D} {xs : List D} (hd : pln 39 d = true) (hx : xs.all (pln 39) = true) : opInB d (.tup xs) M = some (decide (d ∈ xs)) := by
  have e1 : toPy M d = some (tp d) := toP_pln (n := 39) (by decide) hd
  have e2 : toPy M (.tup xs) = some (.tuple (xs.map tp)) := by
    have := toP_pln (M := M) (n := 40) (m := 70) (d := .tup xs) (by decide) hx
    rw [tp, tpL_map] at this
    exact this
  have e3 := shaped_pln hd (by decide)
  have e4 := shaped_tuple hx
  unfold opInB
  split
  · rename_i z; cases z
  · rename_i x y hn
    rw [e1, e2]
    dsimp only
    rw [if_pos ⟨e3, e4⟩, any_eqv hd hx]
theorem in_of {M : Mem} {x y : D} {b : Bool} (h : opInB x y M = some b) : opIn x y M = some (.bl b, M) := by unfold opIn; rw [h]
theorem notIn_of {M : Mem} {x y : D} {b : Bool} (h : opInB x y M = some b) : opNotIn x y M = some (.bl (!b), M) := by unfold opNotIn; rw [h]
end DL

namespace DL
open PySem PySem.Spec PyProof.Rows L2

theorem cNil_lst {M : Mem} {l : Nat} {xs : List D} {neg : Bool} (h : M[l]? = some (.lst xs)) (hx : xs.all (pln 39) = true) : cNil neg (.ref l) M = some (.bl (if neg = true then !xs.isEmpty else xs.isEmpty), M) := by
  unfold cNil
  rw [toPy_ref h hx]
  dsimp only
  rw [if_pos (shaped_list hx)]
  cases xs <;> simp [PyData.eqv, PyData.eqvAll]
theorem ints_pln {n : Nat} : ∀ ns : List Int, (ns.map D.int).all (pln n) = true
  | [] => rfl
  | x :: ns => by
    rw [List.map_cons, List.all_cons, ints_pln ns]
    cases n <;> rfl
theorem strs_pln {n : Nat} {ss : List Str} (h : ∀ s ∈ ss, PyData.strOk s = true) : (ss.map D.str).all (pln n) = true := by
  rw [List.all_eq_true]
  intro d hd
  obtain ⟨s, hs, rfl⟩ := List.mem_map.mp hd
  cases n <;> exact h s hs
/-! the memory grows but for some places -/
structure Go (X : List Nat) (M M' : Mem) : Prop where
  le : M.length ≤ M'.length
  eq : ∀ l, l < M.length → l ∉ X → M'[l]? = M[l]?
section
variable {X Y : List Nat} {M M' M1 M2 : Mem} {l : Nat} {o u : MO}
theorem lt_of {α : Type} {l : Nat} {xs : List α} {x : α} (h : xs[l]? = some x) : l < xs.length := (List.getElem?_eq_some_iff.mp h).1
theorem Go.refl : Go X M M := ⟨Nat.le_refl _, fun _ _ _ => rfl⟩
theorem Go.trans (a : Go X M M1) (b : Go X M1 M2) : Go X M M2 := ⟨Nat.le_trans a.le b.le, fun l hl hn => (b.eq l (Nat.lt_of_lt_of_le hl a.le) hn).trans (a.eq l hl hn)⟩
theorem Go.app {N : List MO} : Go X M (M ++ N) := ⟨by simp, fun l hl _ => List.getElem?_append_left hl⟩
theorem Go.set (h : l ∈ X) : Go X M (M.set l o) := ⟨by simp, fun k hk hn => List.getElem?_set_ne (fun e => hn (by rw [← e]; exact h))⟩
theorem Go.mono (h : Go X M M') (i : ∀ l ∈ X, l ∈ Y) : Go Y M M' := ⟨h.le, fun l hl hn => h.eq l hl fun z => hn (i l z)⟩
/-- places beyond the old memory may change -/
theorem Go.less (h : Go X M M') (i : ∀ l ∈ X, l ∈ Y ∨ M.length ≤ l) : Go Y M M' := ⟨h.le, fun l hl hn => h.eq l hl fun z => by
  rcases i l z with q | q
  · exact hn q
  · omega⟩
theorem Go.get (h : Go X M M') (e : M[l]? = some o) (hn : l ∉ X) : M'[l]? = some o := (h.eq l (lt_of e) hn).trans e
theorem get_app {N : List MO} (e : M[l]? = some o) : (M ++ N)[l]? = some o := (List.getElem?_append_left (lt_of e)).trans e
theorem get_new : (M ++ [o])[M.length]? = some o := by simp
theorem get_set (e : M[l]? = some u) : (M.set l o)[l]? = some o := List.getElem?_set_self (lt_of e)
theorem get_ne {k : Nat} (h : k ≠ l) (e : M[k]? = some o) : (M.set l u)[k]? = some o := (List.getElem?_set_ne (fun z => h z.symm)).trans e
end
/-! operations at the places that are known -/
section
variable {M : Mem} {l : Nat} {xs : List D} {i : Int} {j : Nat} {d : D}
theorem ix_ref (h : M[l]? = some (.lst xs)) (e : atI xs i = some d) : opIx (.ref l) (.int i) M = some (d, M) := by
  show (match M[l]? with
    | some (.lst xs) => match atI xs i with
      | some d => some (d, M)
      | none => none
    | _ => none) = _
  rw [h]
  dsimp only
  rw [e]
theorem ix_tup' (e : atI xs i = some d) : opIx (.tup xs) (.int i) M = some (d, M) := by
  show (match atI xs i with
    | some d => some (d, M)
    | none => none) = _
  rw [e]
theorem ix_fls (e : atI xs i = some d) : opIx (.fls xs) (.int i) M = some (d, M) := by
  show (match atI xs i with
    | some d => some (d, M)
    | none => none) = _
  rw [e]
theorem atI_of (e : xs[j]? = some d) (h : i = (j : Int)) : atI xs i = some d := by rw [h]; exact atI_nat e
theorem atI_0 : atI (d :: xs) 0 = some d := atI_nat (j := 0) rfl
theorem atI_1 {a : D} : atI (a :: d :: xs) 1 = some d := atI_nat (j := 1) rfl
theorem atI_2 {a b : D} : atI (a :: b :: d :: xs) 2 = some d := atI_nat (j := 2) rfl
theorem ixN_nat {n j : Nat} (h : j < n) (e : i = (j : Int)) : ixN n i = some j := by
  subst e
  unfold ixN
  rw [if_pos (by omega), if_pos (by omega)]
  simp
theorem setL_ref {v : D} (h : M[l]? = some (.lst xs)) (hj : j < xs.length) (e : i = (j : Int)) : setL (.ref l) (.int i) v M = some (M.set l (.lst (xs.set j v))) := by
  show (match M[l]? with
    | some (.lst xs) => match ixN xs.length i with
      | some j => some (M.set l (.lst (xs.set j v)))
      | none => none
    | _ => none) = _
  rw [h]
  dsimp only
  rw [ixN_nat hj e]
theorem ty_lst (h : M[l]? = some (.lst xs)) : tyD M (.ref l) = some "list" := by
  show (match M[l]? with
    | some (.lst _) => some "list"
    | some (.dK _) => some "dict"
    | some (.dT _) => some "dict"
    | _ => none) = _
  rw [h]
theorem append_ref {v : D} (h : M[l]? = some (.lst xs)) (hl : xs.length < sizeLine) : mAppend (.ref l) [v] M = some (.non, M.set l (.lst (xs ++ [v]))) := by
  unfold mAppend
  dsimp only
  rw [h]
  dsimp only
  rw [if_pos hl]
theorem extend_ref {k : Nat} {ys : List D} (h : M[l]? = some (.lst xs)) (h2 : M[k]? = some (.lst ys)) (hl : xs.length + ys.length ≤ sizeLine) : mExtend (.ref l) [.ref k] M = some (.non, M.set l (.lst (xs ++ ys))) := by
  unfold mExtend
  dsimp only
  rw [h, h2]
  dsimp only
  rw [if_pos hl]
theorem popAt_ref (h : M[l]? = some (.lst xs)) (e : xs[j]? = some d) (hi : i = (j : Int)) (hz : xs.length ≤ sizeLine) : mPop (.ref l) [.int i] M = some (d, M.set l (.lst (xs.eraseIdx j))) := by
  have hj := lt_of e
  have hs := sizeLine_eq
  unfold mPop
  dsimp only
  rw [h]
  dsimp only
  rw [if_pos (by omega), (ixN_seq (ixN_nat hj hi)).1]
  dsimp only
  rw [e]
theorem len_ref (h : M[l]? = some (.lst xs)) : cLen [.ref l] M = some (.int (xs.length : Nat), M) := by
  unfold cLen
  dsimp only
  rw [h]
theorem itSeq_ref (h : M[l]? = some (.lst xs)) : itSeq (.ref l) M = some (xs, lstIs l xs) := by
  show (match M[l]? with
    | some (.lst xs) => some (xs, lstIs l xs)
    | _ => none) = _
  rw [h]
theorem seqD_ref (h : M[l]? = some (.lst xs)) : seqD M (.ref l) = some xs := by
  show (match M[l]? with
    | some (.lst xs) => some xs
    | _ => none) = _
  rw [h]
theorem lstD_ref (h : M[l]? = some (.lst xs)) : lstD M (.ref l) = some xs := seqD_ref h
end
theorem mul_ok {i j : Int} {M : Mem} (h : -(2 ^ 64) < j ∧ j < 2 ^ 64) : opMul (.int i) (.int j) M = some (.int (i * j), M) := by
  show (if CMulD i j then some (D.int (i * j), M) else none) = _
  rw [if_pos (.inl (.inr h))]
theorem mul_ok2 {i j : Int} {M : Mem} (h : -(2 ^ 64) < i ∧ i < 2 ^ 64) : opMul (.int i) (.int j) M = some (.int (i * j), M) := by
  show (if CMulD i j then some (D.int (i * j), M) else none) = _
  rw [if_pos (.inl (.inl h))]
theorem mod_ok {i j : Int} {M : Mem} (h : 0 < j) : opMod (.int i) (.int j) M = some (.int (i % j), M) := if_pos h
theorem fdiv_ok {i j : Int} {M : Mem} (h : 0 < j) (h2 : j < 1073741824) : opFdiv (.int i) (.int j) M = some (.int (i / j), M) := if_pos ⟨h, .inl h2⟩
theorem size_le {n : Nat} (h : n ≤ 16777216) : n ≤ sizeLine := by rw [sizeLine_eq]; exact h
theorem size_lt {n : Nat} (h : n < 16777216) : n < sizeLine := by rw [sizeLine_eq]; exact h
theorem add_int {i j : Int} {M : Mem} : opAdd (.int i) (.int j) M = some (.int (i + j), M) := rfl
theorem sub_int' {i j : Int} {M : Mem} : opSub (.int i) (.int j) M = some (.int (i - j), M) := rfl
theorem add_str' {i j : Str} {M : Mem} (h : i.length + j.length ≤ 16777216) : opAdd (.str i) (.str j) M = some (.str (i ++ j), M) := if_pos (size_le h)
theorem add_tup' {i j : List D} {M : Mem} (h : i.length + j.length ≤ 16777216) : opAdd (.tup i) (.tup j) M = some (.tup (i ++ j), M) := if_pos (size_le h)
theorem cmp_int {p : Int → Int → Bool} {i j : Int} {M : Mem} : opCmp p (.int i) (.int j) M = some (.bl (p i j), M) := rfl

section
variable {M : Mem} {Q : D → Mem → Prop} {i j : Int}
theorem wM_mul : wM (opMul (.int i) (.int j) M) Q ↔ CMulD i j ∧ Q (.int (i * j)) M := wM_if
theorem wM_fdiv : wM (opFdiv (.int i) (.int j) M) Q ↔ CDivD j ∧ Q (.int (i / j)) M := wM_if
theorem wM_mod : wM (opMod (.int i) (.int j) M) Q ↔ 0 < j ∧ Q (.int (i % j)) M := wM_if
theorem wM_pow : wM (opPow (.int i) (.int j) M) Q ↔ CPow i j ∧ Q (.int (i ^ j.toNat)) M := wM_if
theorem wM_shl : wM (opShl (.int i) (.int j) M) Q ↔ CPow i j ∧ Q (.int (i * 2 ^ j.toNat)) M := wM_if
theorem wM_shr : wM (opShr (.int i) (.int j) M) Q ↔ 0 ≤ j ∧ Q (.int (i / 2 ^ j.toNat)) M := wM_if
theorem wM_is {α : Type} {o : Option (α × Mem)} {a : α} {Q : α → Mem → Prop} {M' : Mem} (e : o = some (a, M')) : wM o Q ↔ Q a M' := by rw [e, wM_some]
theorem cmul_r (h : -(2 ^ 64) < j ∧ j < 2 ^ 64) : CMulD i j := .inl (.inr h)
theorem cmul_l (h : -(2 ^ 64) < i ∧ i < 2 ^ 64) : CMulD i j := .inl (.inl h)
theorem cdiv_lt (h : 0 < j) (h2 : j < 1073741824) : CDivD j := ⟨h, .inl h2⟩
end
end DL

namespace DL
open PySem PySem.Spec PyProof.Rows L2

/-- a comprehension whose tests and items change nothing -/
theorem lc_pure {it : Cp Its} {tg : Tgt} {t : Cp Bool} {e : Cp D} {vs : List Nat} {ρ : En} {M : Mem} {Q : D → Mem → Prop} (pr : D → Bool) (g : D → D)
    (h : wE it ρ M fun p M1 => (∀ acc, p.2 (M1 ++ [.lst acc]) = true) ∧ p.1.length < 16777216 ∧ (∀ x ∈ p.1, ∃ ρ1, tg.f x (wipeE ρ vs) = some ρ1 ∧ ∀ acc, wE t ρ1 (M1 ++ [.lst acc]) (fun b M2 => b = pr x ∧ M2 = M1 ++ [.lst acc]) ∧
      (pr x = true → wE e ρ1 (M1 ++ [.lst acc]) fun d M2 => d = g x ∧ M2 = M1 ++ [.lst acc])) ∧ Q (.ref M1.length) (M1 ++ [.lst ((p.1.filter pr).map g)])) : wE (eLc it tg t e vs) ρ M Q := by
  refine wE_lc (h.imp fun p M1 ⟨hc, hl, hx, hq⟩ => ?_)
  refine wp_lc0 (fun i acc M' => M' = M1 ++ [.lst acc] ∧ acc = ((p.1.take i).filter pr).map g) ⟨rfl, rfl⟩ ?_ ?_
  · rintro j x acc M' hj ⟨rfl, ha⟩
    obtain ⟨ρ1, e1, hw⟩ := hx x (List.mem_of_getElem? hj)
    refine ⟨hc acc, ρ1, e1, (hw acc).1.imp fun b M2 ⟨hb, hM⟩ => ?_⟩
    subst hM
    have et : p.1.take (j + 1) = p.1.take j ++ [x] := by rw [List.take_add_one, hj]; rfl
    have hlen : acc.length ≤ p.1.length := by
      rw [ha, List.length_map]
      refine Nat.le_trans (List.length_filter_le _ _) ?_
      rw [List.length_take]
      omega
    by_cases hp : pr x = true
    · rw [hp] at hb
      subst hb
      rw [if_pos rfl]
      refine ((hw acc).2 hp).imp fun d M2 ⟨hd, hM⟩ => ?_
      subst hM hd
      refine ⟨by simp, size_lt (by omega), by simp, ?_⟩
      rw [et, List.filter_append, List.map_append, ha, List.filter_cons_of_pos hp]
      rfl
    · have hb' : b = false := by rw [hb]; simpa using hp
      subst hb'
      rw [if_neg Bool.false_ne_true]
      refine ⟨rfl, ?_⟩
      rw [et, List.filter_append, List.map_append, ha, List.filter_cons_of_neg hp]
      simp
  · rintro acc M' ⟨rfl, ha⟩
    rw [List.take_length] at ha
    exact ⟨hc acc, by rw [ha]; exact hq⟩
theorem lc_all {it : Cp Its} {tg : Tgt} {e : Cp D} {vs : List Nat} {ρ : En} {M : Mem} {Q : D → Mem → Prop} (g : D → D)
    (h : wE it ρ M fun p M1 => (∀ acc, p.2 (M1 ++ [.lst acc]) = true) ∧ p.1.length < 16777216 ∧ (∀ x ∈ p.1, ∃ ρ1, tg.f x (wipeE ρ vs) = some ρ1 ∧ ∀ acc, wE e ρ1 (M1 ++ [.lst acc]) fun d M2 => d = g x ∧ M2 = M1 ++ [.lst acc]) ∧ Q (.ref M1.length) (M1 ++ [.lst (p.1.map g)])) : wE (eLc it tg tYesD e vs) ρ M Q := by
  refine lc_pure (fun _ => true) g (h.imp fun p M1 ⟨hc, hl, hx, hq⟩ => ⟨hc, hl, fun x hm => ?_, by rw [List.filter_eq_self.mpr fun _ _ => rfl]; exact hq⟩)
  obtain ⟨ρ1, e1, hw⟩ := hx x hm
  exact ⟨ρ1, e1, fun acc => ⟨wE_tYes.mpr ⟨rfl, rfl⟩, fun _ => hw acc⟩⟩
theorem lstIs_app {M : Mem} {l : Nat} {xs : List D} {N : List MO} (h : M[l]? = some (.lst xs)) : lstIs l xs (M ++ N) = true := lstIs_eq.mpr (get_app h)
theorem lstIs_of {M : Mem} {l : Nat} {xs : List D} (h : M[l]? = some (.lst xs)) : lstIs l xs M = true := lstIs_eq.mpr h
theorem upto_nat (n : Nat) : upto 0 n = (List.range n).map fun (i : Nat) => D.int (i : Nat) := by
  unfold upto
  refine List.map_congr_left fun i _ => ?_
  rw [Int.zero_add]
theorem rng1_ok {j : Int} (h : -(2 ^ 62) ≤ j ∧ j < 2 ^ 62) : rng1 [.int j] = some (upto 0 j.toNat, fun _ => true) := if_pos h
/-! all, any of tests -/
theorem blsD_map {α : Type} (f : α → Bool) : ∀ l : List α, blsD (l.map fun x => D.bl (f x)) = some (l.map f)
  | [] => rfl
  | x :: l => by
    show (blsD (l.map fun x => D.bl (f x))).map (f x :: ·) = _
    rw [blsD_map f l]
    rfl
theorem strsD_map : ∀ l : List Str, strsD (l.map D.str) = some l
  | [] => rfl
  | x :: l => by
    show (strsD (l.map D.str)).map (x :: ·) = _
    rw [strsD_map l]
    rfl
theorem intsD_map : ∀ l : List Int, intsD (l.map D.int) = some l
  | [] => rfl
  | x :: l => by
    show (intsD (l.map D.int)).map (x :: ·) = _
    rw [intsD_map l]
    rfl
theorem any_ref {M : Mem} {l : Nat} {bs : List Bool} (h : M[l]? = some (.lst (bs.map D.bl))) : cAny [.ref l] M = some (.bl (bs.any id), M) := by
  have := blsD_map id bs
  simp only [id] at this
  unfold cAny cOnLst
  dsimp only
  rw [lstD_ref h, Option.bind_some, this]
  simp
theorem all_ref {M : Mem} {l : Nat} {bs : List Bool} (h : M[l]? = some (.lst (bs.map D.bl))) : cAll [.ref l] M = some (.bl (bs.all id), M) := by
  have := blsD_map id bs
  simp only [id] at this
  unfold cAll cOnLst
  dsimp only
  rw [lstD_ref h, Option.bind_some, this]
  simp
theorem sum_ref {M : Mem} {l : Nat} {bs : List Int} (h : M[l]? = some (.lst (bs.map D.int))) : cSum [.ref l] M = some (.int bs.sum, M) := by
  unfold cSum cOnLst
  dsimp only
  rw [lstD_ref h, Option.bind_some, intsD_map]
theorem tup_ref {M : Mem} {l : Nat} {xs : List D} (h : M[l]? = some (.lst xs)) : cTup [.ref l] M = some (.tup xs, M) := by
  unfold cTup
  dsimp only
  rw [seqD_ref h]
theorem tup_tup {M : Mem} {xs : List D} : cTup [.tup xs] M = some (.tup xs, M) := rfl
theorem len_tup {M : Mem} {xs : List D} : cLen [.tup xs] M = some (.int (xs.length : Nat), M) := rfl
theorem itSeq_tup {M : Mem} {xs : List D} : itSeq (.tup xs) M = some (xs, fun _ => true) := rfl
theorem itSeq_fls {M : Mem} {xs : List D} : itSeq (.fls xs) M = some (xs, fun _ => true) := rfl
theorem lenSet_ref {M : Mem} {l : Nat} {xs : List D} {ks : List (List Str)} (h : M[l]? = some (.lst xs)) (hx : xs.mapM strsOf = some ks) (hz : ks.length ≤ 76) : cLenSet [.ref l] M = some (.int ((distK ks).length : Nat), M) := by
  unfold cLenSet
  dsimp only
  rw [h]
  dsimp only
  rw [hx]
  dsimp only
  rw [if_pos hz]
/-! join, sorted -/
theorem join_ref {M : Mem} {l : Nat} {a : Str} {ss : List Str} (h : M[l]? = some (.lst (ss.map D.str))) (hz : (ss.map (·.length)).sum + ss.length * a.length ≤ 16777216) : mJoin (.str a) [.ref l] M = some (.str (Txt.join a ss), M) := by
  unfold mJoin
  dsimp only
  rw [seqD_ref h, Option.bind_some, strsD_map]
  dsimp only
  rw [if_pos hz]
end DL

namespace DL
open PySem PySem.Spec PyProof.Rows L2

/-! ### texts as rows of signs -/
def cl (x : Str) : List Nat := x.cps.toList
theorem cl_inj {x y : Str} (h : cl x = cl y) : x = y := PySem.W.str_of_cps h
theorem cl_app (x y : Str) : cl (x ++ y) = cl x ++ cl y := Array.toList_append
theorem cl_len (x : Str) : (cl x).length = x.length := Array.length_toList
theorem cl_mk (l : List Nat) : cl ⟨l.toArray⟩ = l := rfl
theorem strOk_cl {x : Str} : PyData.strOk x = true ↔ ∀ c ∈ cl x, c < 0x110000 := by
  unfold PyData.strOk cl
  rw [Array.all_eq_true_iff_forall_mem]
  simp
theorem cl_cut (x : Str) (lo hi : Option Int) : cl (cutS x lo hi) = ((cl x).drop (HT.sIx x.length 0 lo)).take (HT.sIx x.length x.length hi - HT.sIx x.length 0 lo) := rfl
theorem sIx_of {n d j : Nat} {i : Int} (h : i = (j : Int)) (hj : j ≤ n) : HT.sIx n d (some i) = j := by
  rw [h, HT.sIx_nat, Nat.min_eq_left hj]
theorem cl_take {x : Str} {i : Int} {j : Nat} (h : i = (j : Int)) (hj : j ≤ x.length) : cl (cutS x none (some i)) = (cl x).take j := by
  rw [cl_cut, sIx_of h hj]
  rfl
theorem cl_drop {x : Str} {i : Int} {j : Nat} (h : i = (j : Int)) (hj : j ≤ x.length) : cl (cutS x (some i) none) = (cl x).drop j := by
  rw [cl_cut, sIx_of h hj]
  show ((cl x).drop j).take (x.length - j) = _
  refine List.take_of_length_le ?_
  rw [List.length_drop, cl_len]
  exact Nat.le_refl _
theorem len_app (x y : Str) : (x ++ y).length = x.length + y.length := by rw [← cl_len, cl_app, List.length_append, cl_len, cl_len]
theorem len_cut (x : Str) (lo hi : Option Int) : (cutS x lo hi).length ≤ x.length := by
  rw [← cl_len, cl_cut, List.length_take, List.length_drop, cl_len]
  omega
theorem strOk_app {x y : Str} (h1 : PyData.strOk x = true) (h2 : PyData.strOk y = true) : PyData.strOk (x ++ y) = true := by
  rw [strOk_cl] at h1 h2 ⊢
  intro c hc
  rw [cl_app, List.mem_append] at hc
  exact hc.elim (h1 c) (h2 c)
theorem strOk_cut {x : Str} {lo hi : Option Int} (h1 : PyData.strOk x = true) : PyData.strOk (cutS x lo hi) = true := by
  rw [strOk_cl] at h1 ⊢
  intro c hc
  exact h1 c (List.mem_of_mem_drop (List.mem_of_mem_take hc))
theorem ne_empty {x : Str} (h : 0 < x.length) : x ≠ "" := by
  intro e
  subst e
  have : (("" : Str)).length = 0 := by decide +kernel
  omega
theorem foldl_app (c : Array Nat) : ∀ (k : Nat) (acc : Array Nat), ((List.replicate k c).foldl (· ++ ·) acc).toList = acc.toList ++ (List.replicate k c.toList).flatten
  | 0, acc => by simp
  | k + 1, acc => by
    rw [List.replicate_succ, List.foldl_cons, foldl_app c k, Array.toList_append, List.replicate_succ, List.flatten_cons, List.append_assoc]
theorem cl_mul (x : Str) (n : Int) : cl (strMul x n) = (List.replicate n.toNat (cl x)).flatten := by
  unfold strMul Txt.mul
  by_cases h : n < 1
  · rw [if_pos h, show n.toNat = 0 by omega]
    rfl
  · rw [if_neg h]
    split
    · rename_i hc
      rw [Bool.or_eq_true, beq_iff_eq, beq_iff_eq] at hc
      rcases hc with h | h
      · subst h; simp
      · have : cl x = [] := List.length_eq_zero_iff.mp ((cl_len x).trans h)
        rw [this]
        symm
        rw [List.flatten_eq_nil_iff]
        intro l hl
        exact (List.mem_replicate.mp hl).2
    · show ((List.replicate n.toNat x.cps).foldl (· ++ ·) #[]).toList = _
      rw [foldl_app]
      rfl
theorem ix_str {x : Str} {i : Int} {j : Nat} {c : Nat} {M : Mem} (h : (cl x)[j]? = some c) (e : i = (j : Int)) (hz : x.length ≤ 16777216) : opIx (.str x) (.int i) M = some (.str ⟨#[c]⟩, M) := by
  show (if x.length ≤ sizeLine then (match atI x.cps.toList i with
    | some c => some (D.str ⟨#[c]⟩, M)
    | none => none) else none) = _
  rw [if_pos (size_le hz)]
  subst e
  rw [show atI x.cps.toList (j : Int) = some c from atI_nat h]
theorem sl_str' {x : Str} {lo hi : Option Int} {M : Mem} (hz : x.length ≤ 16777216) : opSl (.str x) lo hi M = some (.str (cutS x lo hi), M) := if_pos (size_le hz)
theorem sl_tup' {xs : List D} {lo hi : Option Int} {M : Mem} : opSl (.tup xs) lo hi M = some (.tup (cutD xs lo hi), M) := rfl
theorem cutD_take {xs : List D} {i : Int} {j : Nat} (h : i = (j : Int)) (hj : j ≤ xs.length) : cutD xs none (some i) = xs.take j := by
  unfold cutD
  rw [sIx_of h hj]
  rfl
theorem cutD_drop {xs : List D} {i : Int} {j : Nat} (h : i = (j : Int)) (hj : j ≤ xs.length) : cutD xs (some i) none = xs.drop j := by
  unfold cutD
  rw [sIx_of h hj]
  show (xs.drop j).take (xs.length - j) = _
  refine List.take_of_length_le ?_
  rw [List.length_drop]
  exact Nat.le_refl _
/-! ### sorted -/
theorem sorted_map {β : Type} {M : Mem} {l : Nat} {bs : List β} (dd : β → D) (enc : β → PyData) (h : M[l]? = some (.lst (bs.map dd))) (he : ∀ b ∈ bs, toPy M (dd b) = some (enc b)) (h1 : ∀ a ∈ bs, ∀ b ∈ bs, PySem.W.alike (enc a) (enc b) = true) (h2 : sortableB (bs.map enc) = true) (h3 : ∀ b ∈ bs, (enc b).depth ≤ 50) (hz : bs.length ≤ 16777216) :
    cSorted [.ref l] M = some (.ref M.length, M ++ [.lst ((bs.mergeSort (PySem.W.dataLe false enc)).map dd)]) := by
  have hm : (bs.map dd).mapM (toPy M) = some (bs.map enc) := by
    rw [List.mapM_map]
    exact mapM_all he
  have hs : sortD M (bs.map dd) = some ((bs.mergeSort (PySem.W.dataLe false enc)).map dd) := by
    unfold sortD
    rw [hm]
    dsimp only
    have c1 : alikeB (bs.map enc) = true := List.all_eq_true.mpr fun a ha => List.all_eq_true.mpr fun b hb => by
      obtain ⟨a, ha2, rfl⟩ := List.mem_map.mp ha
      obtain ⟨b, hb2, rfl⟩ := List.mem_map.mp hb
      exact h1 a ha2 b hb2
    have c2 : ((bs.map enc).all fun p => decide (p.depth ≤ 50)) = true := List.all_eq_true.mpr fun a ha => by
      obtain ⟨a, ha2, rfl⟩ := List.mem_map.mp ha
      exact decide_eq_true (h3 a ha2)
    rw [if_pos ⟨c1, h2, c2⟩]
    rw [show (bs.map dd).zip (bs.map enc) = bs.map fun b => (dd b, enc b) by rw [List.zip_map']]
    rw [← List.map_mergeSort (f := fun b => (dd b, enc b)) (r := PySem.W.dataLe false enc) (fun a _ b _ => rfl), List.map_map]
    rfl
  unfold cSorted
  dsimp only
  rw [lstD_ref h, Option.bind_some, hs]
  dsimp only
  unfold newL
  rw [if_pos (by rw [List.length_map, List.length_mergeSort]; exact size_le hz)]
/-- texts in their order -/
theorem sorted_strs {M : Mem} {l : Nat} {ss : List Str} (h : M[l]? = some (.lst (ss.map D.str))) (hz : ss.length ≤ 16777216) : ∃ ts : List Str, ts.Perm ss ∧ ts.Pairwise (fun a b => cl a ≤ cl b) ∧ cSorted [.ref l] M = some (.ref M.length, M ++ [.lst (ts.map D.str)]) := by
  refine ⟨_, List.mergeSort_perm ss (PySem.W.dataLe false fun x => .str x), ?_, sorted_map D.str (fun x => .str x) h (fun b _ => rfl) (fun a _ b _ => by simp [PySem.W.alike]) ?_ (fun b _ => by simp [PyData.depth]) hz⟩
  · have := List.pairwise_mergeSort (le := PySem.W.dataLe false fun (x : Str) => PyData.str x) (fun a b c => by
      rw [PySem.W.dataLe_str (fun x => x)]
      simp only [decide_eq_true_eq]
      exact fun h1 h2 => Std.le_trans h1 h2) (fun a b => by
      rw [PySem.W.dataLe_str (fun x => x)]
      simp only [Bool.or_eq_true, decide_eq_true_eq]
      exact Std.le_total) ss
    refine this.imp fun {a b} h => ?_
    rw [PySem.W.dataLe_str (fun x => x)] at h
    exact of_decide_eq_true h
  · unfold sortableB
    rw [Bool.or_eq_true]
    right
    rw [List.all_eq_true]
    intro p hp
    obtain ⟨x, _, rfl⟩ := List.mem_map.mp hp
    rfl
theorem lt_iii (x y z x' y' z' : Int) : PySem.W.dataLt (.tuple [.int x, .int y, .int z]) (.tuple [.int x', .int y', .int z']) = decide (x < x' ∨ (x = x' ∧ (y < y' ∨ y = y' ∧ z < z'))) := by
  rw [PySem.W.dataLt_tuple, PySem.W.dataLt_cons (by simp [PySem.W.alike]), PySem.W.dataLt_cons (by simp [PySem.W.alike]), PySem.W.dataLt_cons (by simp [PySem.W.alike])]
  have e : PyProof.Rows.lexLt itemOrd (PySem.W.keyToksAll []) (PySem.W.keyToksAll []) = false := lex_irrefl _
  rw [e, PySem.W.dataLt_int, PySem.W.dataLt_int, PySem.W.dataLt_int]
  simp only [PyData.eqv, beq_iff_eq]
  by_cases h1 : x = x' <;> by_cases h2 : y = y' <;> by_cases h3 : z = z' <;> simp [h1, h2, h3]
end DL
namespace DL
open PySem PySem.Spec PyProof.Rows L2
theorem erase_map {α β : Type} (f : α → β) : ∀ (l : List α) (i : Nat), (l.map f).eraseIdx i = (l.eraseIdx i).map f
  | [], _ => rfl
  | _ :: _, 0 => rfl
  | x :: l, i + 1 => by
    rw [List.map_cons, List.eraseIdx_cons_succ, List.eraseIdx_cons_succ, List.map_cons, erase_map f l i]
theorem erase_perm {α : Type} : ∀ {l : List α} {i : Nat} {x : α}, l[i]? = some x → (x :: l.eraseIdx i).Perm l
  | [], _, _, h => by simp at h
  | y :: l, 0, x, h => by
    rw [List.getElem?_cons_zero, Option.some.injEq] at h
    subst h
    exact .refl _
  | y :: l, i + 1, x, h => by
    rw [List.getElem?_cons_succ] at h
    rw [List.eraseIdx_cons_succ]
    exact (List.Perm.swap y x _).trans ((erase_perm h).cons y)
theorem ex1 {α : Type} {p : Prop} {y : α} {P : α → Prop} : (∃ b, (p ∧ y = b) ∧ P b) ↔ p ∧ P y := ⟨fun ⟨_, ⟨h, e⟩, q⟩ => ⟨h, e ▸ q⟩, fun ⟨h, q⟩ => ⟨y, ⟨h, rfl⟩, q⟩⟩
theorem ex2 {α : Type} {p q : Prop} {y : α} {P : α → Prop} : (∃ b, (p ∧ q ∧ y = b) ∧ P b) ↔ (p ∧ q) ∧ P y := ⟨fun ⟨_, ⟨h, h2, e⟩, q⟩ => ⟨⟨h, h2⟩, e ▸ q⟩, fun ⟨⟨h, h2⟩, q⟩ => ⟨y, ⟨h, h2, rfl⟩, q⟩⟩
theorem upto_at {n j : Nat} {x : D} (h : (upto 0 n)[j]? = some x) : x = .int (j : Nat) ∧ j < n := by
  have hj := lt_of h
  rw [upto_nat, List.length_map, List.length_range] at hj
  rw [upto_nat, List.getElem?_map, List.getElem?_range hj] at h
  exact ⟨(Option.some.inj h).symm, hj⟩
theorem truD_bl {M : Mem} {b : Bool} : truD M (.bl b) = some b := rfl
theorem sh_bl {b : Bool} : SeqAt.shaped (.bool b) = true := by
  unfold SeqAt.shaped
  rw [PyData.canLay0, PyData.depth]
  rfl
theorem eq_bl {a b : Bool} {M : Mem} : opEq (.bl a) (.bl b) M = some (.bl (a == b), M) := by
  unfold opEq
  show (if SeqAt.shaped (.bool a) = true ∧ SeqAt.shaped (.bool b) = true then some (D.bl (PyData.eqv (.bool a) (.bool b)), M) else none) = _
  rw [if_pos ⟨sh_bl, sh_bl⟩, PyData.eqv]
theorem ne_bl {a b : Bool} {M : Mem} : opNe (.bl a) (.bl b) M = some (.bl (a != b), M) := by
  unfold opNe
  show (if SeqAt.shaped (.bool a) = true ∧ SeqAt.shaped (.bool b) = true then some (D.bl (!PyData.eqv (.bool a) (.bool b)), M) else none) = _
  rw [if_pos ⟨sh_bl, sh_bl⟩, PyData.eqv]
  rfl
theorem tyD_str {M : Mem} {x : Str} : tyD M (.str x) = some "str" := rfl
theorem atI_map {α β : Type} {f : α → β} {l : List α} {i : Int} (h0 : 0 ≤ i) (h1 : i < l.length) : ∃ a, l[i.toNat]? = some a ∧ a ∈ l ∧ atI (l.map f) i = some (f a) := by
  have hj : i.toNat < l.length := by omega
  refine ⟨l[i.toNat], List.getElem?_eq_getElem hj, List.getElem_mem hj, ?_⟩
  have e : ((i.toNat : Nat) : Int) = i := Int.toNat_of_nonneg h0
  have : (l.map f)[i.toNat]? = some (f l[i.toNat]) := by rw [List.getElem?_map, List.getElem?_eq_getElem hj]; rfl
  have q : atI (l.map f) ((i.toNat : Nat) : Int) = some (f l[i.toNat]) := atI_nat this
  exact (congrArg (atI (l.map f)) e.symm).trans q
section
variable {X : List Nat} {M M1 : Mem} {l : Nat} {o : MO}
theorem Go.setN (g : Go X M M1) (h : M.length ≤ l) : Go X M (M1.set l o) := ⟨by rw [List.length_set]; exact g.le, fun k hk hn => by rw [List.getElem?_set_ne (by omega)]; exact g.eq k hk hn⟩
theorem Go.appN {N : List MO} (g : Go X M M1) : Go X M (M1 ++ N) := g.trans Go.app
end
theorem cl_join : ∀ ss : List Str, cl (Txt.join "" ss) = (ss.map cl).flatten := fun ss => by
  rw [show Txt.join "" ss = Str.join "" ss from StrLaws.glued_eq_join _ _]
  have he : cl (("" : Str)) = [] := by decide +kernel
  have : ∀ ss : List Str, cl (Str.join "" ss) = (ss.map cl).flatten := by
    intro ss
    induction ss with
    | nil => rfl
    | cons x r ih =>
      cases r with
      | nil => simp [Str.join]
      | cons y r =>
        show cl (x ++ "" ++ Str.join "" (y :: r)) = _
        rw [cl_app, cl_app, he, ih]
        simp
  exact this ss
end DL

set_option maxHeartbeats 4000000
namespace G
open PySem PySem.Spec PyProof.Rows L2 DL
/-! ### the text -/
def top (i : Nat) : Stmt := PySem.Challenge.pw_stickytiles_k64_what_is_framed.main.body.getD i (.Pass ⟨0, 0, 0, 0⟩)
abbrev s_frame_of : Stmt := top 2
abbrev N_frame_of : List Str := ["wide", "high", "found", "x", "y"]
theorem sc_frame_of : FnScope N_frame_of ["wide", "high"] (defScope s_frame_of) := ⟨rfl, rfl, rfl, by decide +kernel, rfl, by decide +kernel, by decide +kernel⟩
abbrev s_is_framed : Stmt := top 3
abbrev N_is_framed : List Str := ["bed", "enough", "sticks", "kinds", "wide", "high", "seed", "told", "name", "strength", "kind", "face", "north", "east", "south", "west", "x", "y"]
theorem sc_is_framed : FnScope N_is_framed ["bed"] (defScope s_is_framed) := ⟨rfl, rfl, rfl, by decide +kernel, rfl, by decide +kernel, by decide +kernel⟩
abbrev s_law_start : Stmt := top 5
abbrev N_law_start : List Str := ["_law_script", "_law_seed", "_law_k", "_law_cell"]
theorem sc_law_start : FnScope N_law_start ["_law_script"] (defScope s_law_start) := ⟨rfl, rfl, rfl, by decide +kernel, rfl, by decide +kernel, by decide +kernel⟩
abbrev s_law_next : Stmt := top 6
abbrev N_law_next : List Str := ["_law_state", "_law_many", "_law_digit"]
theorem sc_law_next : FnScope N_law_next ["_law_state", "_law_many"] (defScope s_law_next) := ⟨rfl, rfl, rfl, by decide +kernel, rfl, by decide +kernel, by decide +kernel⟩
abbrev s_law_names : Stmt := top 7
abbrev N_law_names : List Str := ["_law_state", "_law_many", "_law_letters", "_law_first", "_law_step", "_law_size", "_law_stem", "_law_at", "_law_k"]
theorem sc_law_names : FnScope N_law_names ["_law_state", "_law_many"] (defScope s_law_names) := ⟨rfl, rfl, rfl, by decide +kernel, rfl, by decide +kernel, by decide +kernel⟩
abbrev s_law_framed : Stmt := top 8
abbrev N_law_framed : List Str := ["_law_state", "_law_most", "_law_kinds_most", "_law_names_here", "_law_many", "_law_twos", "_law_south", "_law_signs", "_law_kinds", "_law_turn", "_law_east", "_law_face", "_law_wide", "_law_high", "_law_seed", "_law_x", "_law_y", "_law_name"]
theorem sc_law_framed : FnScope N_law_framed ["_law_state", "_law_most", "_law_kinds_most"] (defScope s_law_framed) := ⟨rfl, rfl, rfl, by decide +kernel, rfl, by decide +kernel, by decide +kernel⟩
abbrev s_law_look : Stmt := top 9
abbrev N_law_look : List Str := ["_law_bed", "_law_enough", "_law_sticks", "_law_kinds", "_law_wide", "_law_high", "_law_seed", "_law_at", "_law_kind", "_law_places", "_law_x", "_law_y", "_law_name", "_law_strength", "_law_other", "_law_tile"]
theorem sc_law_look : FnScope N_law_look ["_law_bed"] (defScope s_law_look) := ⟨rfl, rfl, rfl, by decide +kernel, rfl, by decide +kernel, by decide +kernel⟩
abbrev s_law_with : Stmt := top 10
abbrev N_law_with : List Str := ["_law_things", "_law_at", "_law_thing"]
theorem sc_law_with : FnScope N_law_with ["_law_things", "_law_at", "_law_thing"] (defScope s_law_with) := ⟨rfl, rfl, rfl, by decide +kernel, rfl, by decide +kernel, by decide +kernel⟩
abbrev s_law_house_otherwise : Stmt := top 11
abbrev N_law_house_otherwise : List Str := ["_law_state", "_law_house", "_law_enough", "_law_sticks", "_law_kinds", "_law_way", "_law_at", "_law_stick", "_law_name", "_law_other", "_law_one", "_law_strength"]
theorem sc_law_house_otherwise : FnScope N_law_house_otherwise ["_law_state", "_law_house"] (defScope s_law_house_otherwise) := ⟨rfl, rfl, rfl, by decide +kernel, rfl, by decide +kernel, by decide +kernel⟩
abbrev s_law_otherwise : Stmt := top 12
abbrev N_law_otherwise : List Str := ["_law_state", "_law_bed", "_law_house", "_law_wide", "_law_high", "_law_seed", "_law_way", "_law_at", "_law_lies", "_law_free", "_law_x", "_law_some", "_law_tile", "_law_y"]
theorem sc_law_otherwise : FnScope N_law_otherwise ["_law_state", "_law_bed"] (defScope s_law_otherwise) := ⟨rfl, rfl, rfl, by decide +kernel, rfl, by decide +kernel, by decide +kernel⟩
abbrev s_law : Stmt := top 13
abbrev N_law : List Str := ["_law_script", "_law_state", "_law_turn", "_law_bed", "_law_k", "_law_other", "_law_found"]
theorem sc_law : FnScope N_law ["_law_script"] (defScope s_law) := ⟨rfl, rfl, rfl, by decide +kernel, rfl, by decide +kernel, by decide +kernel⟩
/-! ### the defs as functions -/
def m_frame_of : Sm := (seqS (sAsg (eLst aNil) (gN 2)) (seqS (sFor (iRange1 (aCons (eVar 0) aNil)) (gN 3) (sExpr (eMeth "list" mExtend (eVar 2) (aCons (eLc (iRange1 (aCons (eVar 1) aNil)) (gN 4) (tOrD (tOfE (eBin opEq (eVar 4) (eC (.int 0)))) (tOfE (eBin opEq (eVar 3) (eBin opSub (eVar 0) (eC (.int 1)))))) (eTup (aCons (eVar 3) (aCons (eVar 4) aNil))) [4]) aNil)))) (sRet (eVar 2))))
def F_frame_of : Fn := fn0 (fnOf 5 2 m_frame_of)
def m_is_framed : Sm := (seqS (sAsg (eVar 0) (gT 3 (gsCons (gT 3 (gsCons (gN 1) (gsCons (gN 2) (gsCons (gN 3) gsNil)))) (gsCons (gT 2 (gsCons (gN 4) (gsCons (gN 5) gsNil))) (gsCons (gN 6) gsNil))))) (seqS (sIf (tOrD (tOfE (eBin opNe (eVar 1) (eC (.int 2)))) (tTru (eCB cAny (aCons (eLc (iSeq (eVar 2)) (gT 2 (gsCons (gN 8) (gsCons (gN 9) gsNil))) tYesD (eBin opNe (eVar 9) (eC (.int 1))) [8, 9]) aNil)))) (sRet (eC (.bl false))) nxS) (seqS (sIf (tTru (eCB cAny (aCons (eLc (iSeq (eVar 3)) (gN 10) tYesD (eBin opIn (eC (.str "")) (eSl (eVar 10) (oSome (eC (.int 1))) oNo)) [10]) aNil))) (sRet (eC (.bl false))) nxS) (seqS (sAsg (eLc (iSeq (eVar 3)) (gT 5 (gsCons (gN 11) (gsCons (gN 12) (gsCons (gN 13) (gsCons (gN 14) (gsCons (gN 15) gsNil)))))) tYesD (eTup (aCons (eVar 14) (aCons (eVar 13) aNil))) [11, 12, 13, 14, 15]) (gN 7)) (sRet (eAndV (eBin opEq (eLenSet (eVar 7)) (eCB cLen (aCons (eVar 7) aNil))) (eBin opEq (eLc (iSeq (eVar 6)) (gT 3 (gsCons (gN 16) (gsCons (gN 17) (gsCons (gN 10) gsNil)))) tYesD (eTup (aCons (eVar 16) (aCons (eVar 17) aNil))) [16, 17, 10]) (eCall F_frame_of (aCons (eVar 4) (aCons (eVar 5) aNil))))))))))
def F_is_framed : Fn := fn0 (fnOf 18 1 m_is_framed)
def m_law_start : Sm := (seqS (sAsg (eC (.int 17)) (gN 1)) (seqS (sFor (iEnumD (aCons (eSl (eVar 0) oNo (oSome (eC (.int 63)))) aNil)) (gT 2 (gsCons (gN 2) (gsCons (gN 3) gsNil))) (sAsg (eBin opMod (eBin opAdd (eBin opAdd (eBin opAdd (eBin opMul (eVar 1) (eC (.int 1000003))) (eBin opMod (eVar 3) (eC (.int 2305843009213693951)))) (eBin opMul (eC (.int 31)) (eVar 2))) (eC (.int 7))) (eC (.int 2305843009213693951))) (gN 1))) (sRet (eLst (aCons (eLc (iSeq (eSl (eVar 0) oNo (oSome (eC (.int 63))))) (gN 3) (tOfE (eBin opGe (eCB cAbs (aCons (eVar 3) aNil)) (eBin opPow (eC (.int 10)) (eC (.int 18))))) (eCB cAbs (aCons (eVar 3) aNil)) [3]) (aCons (eVar 1) aNil))))))
def F_law_start : Fn := fn0 (fnOf 4 1 m_law_start)
def m_law_next : Sm := (seqS (sWhile 1000 (tAndD (tOfE (eNeNil (eBin opIx (eVar 0) (eC (.int 0))))) (tOfE (eBin opEq (eBin opIx (eBin opIx (eVar 0) (eC (.int 0))) (eC (.int 0))) (eC (.int 0))))) (sExpr (eMeth "list" mPop (eBin opIx (eVar 0) (eC (.int 0))) (aCons (eC (.int 0)) aNil)))) (seqS (sIf (tOfE (eNeNil (eBin opIx (eVar 0) (eC (.int 0))))) (seqS (sAsg (eBin opMod (eBin opIx (eBin opIx (eVar 0) (eC (.int 0))) (eC (.int 0))) (eVar 1)) (gN 2)) (seqS (sSub setL (eBin opFdiv (eBin opIx (eBin opIx (eVar 0) (eC (.int 0))) (eC (.int 0))) (eVar 1)) (eBin opIx (eVar 0) (eC (.int 0))) (eC (.int 0))) (sRet (eVar 2)))) nxS) (seqS (sSub setL (eBin opMod (eBin opAdd (eBin opMul (eBin opIx (eVar 0) (eC (.int 1))) (eC (.int 6364136223846793005))) (eC (.int 1442695040888963407))) (eC (.int 2305843009213693951))) (eVar 0) (eC (.int 1))) (sRet (eBin opMod (eBin opFdiv (eBin opMod (eBin opMul (eBin opIx (eVar 0) (eC (.int 1))) (eBin opAdd (eBin opMod (eBin opIx (eVar 0) (eC (.int 1))) (eC (.int 1000003))) (eC (.int 48271)))) (eC (.int 2305843009213693951))) (eC (.int 4099))) (eVar 1))))))
def F_law_next : Fn := fn0 (fnOf 3 2 m_law_next)
def m_law_names : Sm := (seqS (sAsg (eC (.str "abcdefghijklmnopqrstuvwxyz")) (gN 2)) (seqS (sAsg (eTup (aCons (eCall F_law_next (aCons (eVar 0) (aCons (eC (.int 26)) aNil))) (aCons (eBin opIx (eLst (aCons (eC (.int 1)) (aCons (eC (.int 3)) (aCons (eC (.int 5)) (aCons (eC (.int 7)) (aCons (eC (.int 9)) (aCons (eC (.int 11)) aNil))))))) (eCall F_law_next (aCons (eVar 0) (aCons (eC (.int 6)) aNil)))) aNil))) (gT 2 (gsCons (gN 3) (gsCons (gN 4) gsNil)))) (seqS (sAsg (eCall F_law_next (aCons (eVar 0) (aCons (eC (.int 8)) aNil))) (gN 5)) (seqS (sAsg (eMeth "str" mJoin (eC (.str "")) (aCons (eLc (iRange1 (aCons (eVar 5) aNil)) (gN 8) tYesD (eBin opIx (eVar 2) (eCall F_law_next (aCons (eVar 0) (aCons (eC (.int 26)) aNil)))) [8]) aNil)) (gN 6)) (seqS (sAsg (eCall F_law_next (aCons (eVar 0) (aCons (eBin opAdd (eVar 5) (eC (.int 1))) aNil))) (gN 7)) (seqS (sIf (tAndD (tOfE (eBin opLt (eVar 1) (eC (.int 9)))) (tOfE (eBin opEq (eCall F_law_next (aCons (eVar 0) (aCons (eC (.int 4)) aNil))) (eC (.int 0))))) (sRet (eCB cSorted (aCons (eLc (iRange1 (aCons (eVar 1) aNil)) (gN 8) tYesD (eBin opMul (eBin opIx (eVar 2) (eVar 3)) (eBin opAdd (eVar 8) (eC (.int 1)))) [8]) aNil))) nxS) (sRet (eCB cSorted (aCons (eLc (iRange1 (aCons (eVar 1) aNil)) (gN 8) tYesD (eBin opAdd (eBin opAdd (eSl (eVar 6) oNo (oSome (eVar 7))) (eBin opIx (eVar 2) (eBin opMod (eBin opAdd (eVar 3) (eBin opMul (eVar 4) (eVar 8))) (eC (.int 26))))) (eSl (eVar 6) (oSome (eVar 7)) oNo)) [8]) aNil)))))))))
def F_law_names : Fn := fn0 (fnOf 9 2 m_law_names)
def m_law_framed : Sm := (seqS (sAsg (eCall F_law_names (aCons (eVar 0) (aCons (eBin opAdd (eC (.int 1)) (eCall F_law_next (aCons (eVar 0) (aCons (eC (.int 4)) aNil)))) aNil))) (gN 3)) (seqS (sAsg (eCB cLen (aCons (eVar 3) aNil)) (gN 4)) (seqS (sAsg (eLst aNil) (gN 5)) (seqS (sFor (iSeq (eVar 3)) (gN 6) (sExpr (eMeth "list" mExtend (eVar 5) (aCons (eLc (iSeq (eVar 3)) (gN 10) tYesD (eTup (aCons (eVar 6) (aCons (eVar 10) aNil))) [10]) aNil)))) (seqS (sAsg (eC (.str "abcdefghijklmnopqrstuvwxyz0123456789")) (gN 7)) (seqS (sAsg (eLst aNil) (gN 8)) (seqS (sFor (iRange1 (aCons (eCB cMin2 (aCons (eCB cLen (aCons (eVar 5) aNil)) (aCons (eBin opAdd (eC (.int 1)) (eCall F_law_next (aCons (eVar 0) (aCons (eVar 2) aNil)))) aNil))) aNil)) (gN 9) (seqS (sAsg (eMeth "list" mPop (eVar 5) (aCons (eCall F_law_next (aCons (eVar 0) (aCons (eCB cLen (aCons (eVar 5) aNil)) aNil))) aNil)) (gT 2 (gsCons (gN 6) (gsCons (gN 10) gsNil)))) (seqS (sAsg (eBin opIx (eLst (aCons (eC (.str "")) (aCons (eBin opIx (eVar 7) (eCall F_law_next (aCons (eVar 0) (aCons (eC (.int 36)) aNil)))) aNil))) (eCall F_law_next (aCons (eVar 0) (aCons (eC (.int 2)) aNil)))) (gN 11)) (sExpr (eMeth "list" mAppend (eVar 8) (aCons (eTup (aCons (eVar 11) (aCons (eBin opIx (eVar 3) (eCall F_law_next (aCons (eVar 0) (aCons (eVar 4) aNil)))) (aCons (eVar 10) (aCons (eVar 6) (aCons (eBin opIx (eVar 3) (eCall F_law_next (aCons (eVar 0) (aCons (eVar 4) aNil)))) aNil)))))) aNil)))))) (seqS (sPar2 12 13 (aCons (eBin opAdd (eC (.int 1)) (eCall F_law_next (aCons (eVar 0) (aCons (eVar 1) aNil)))) (aCons (eBin opAdd (eC (.int 1)) (eCall F_law_next (aCons (eVar 0) (aCons (eVar 1) aNil)))) aNil))) (seqS (sAsg (eLst aNil) (gN 14)) (seqS (sFor (iRange1 (aCons (eVar 12) aNil)) (gN 15) (sFor (iRange1 (aCons (eVar 13) aNil)) (gN 16) (sIf (tOrD (tOfE (eBin opEq (eVar 16) (eC (.int 0)))) (tOfE (eBin opEq (eVar 15) (eBin opSub (eVar 12) (eC (.int 1)))))) (sExpr (eMeth "list" mAppend (eVar 14) (aCons (eTup (aCons (eVar 15) (aCons (eVar 16) (aCons (eCall F_law_next (aCons (eVar 0) (aCons (eCB cLen (aCons (eVar 8) aNil)) aNil))) aNil)))) aNil))) nxS))) (sRet (eTup (aCons (eTup (aCons (eC (.int 2)) (aCons (eCB cTup (aCons (eLc (iSeq (eVar 3)) (gN 17) tYesD (eTup (aCons (eVar 17) (aCons (eC (.int 1)) aNil))) [17]) aNil)) (aCons (eCB cTup (aCons (eVar 8) aNil)) aNil)))) (aCons (eTup (aCons (eVar 12) (aCons (eVar 13) aNil))) (aCons (eCB cTup (aCons (eVar 14) aNil)) aNil)))))))))))))))
def F_law_framed : Fn := fn0 (fnOf 18 3 m_law_framed)
def m_law_look : Sm := (seqS (sAsg (eVar 0) (gT 3 (gsCons (gT 3 (gsCons (gN 1) (gsCons (gN 2) (gsCons (gN 3) gsNil)))) (gsCons (gT 2 (gsCons (gN 4) (gsCons (gN 5) gsNil))) (gsCons (gN 6) gsNil))))) (seqS (sIf (tOrD (tOfE (eBin opNe (eVar 1) (eC (.int 2)))) (tOfE (eNeNil (eLc (iSeq (eVar 2)) (gT 2 (gsCons (gN 12) (gsCons (gN 13) gsNil))) (tOfE (eBin opNe (eVar 13) (eC (.int 1)))) (eVar 12) [12, 13])))) (sRet (eC (.bl false))) nxS) (seqS (sFor (iEnumD (aCons (eVar 3) aNil)) (gT 2 (gsCons (gN 7) (gsCons (gN 8) gsNil))) (sIf (tOrD (tOfE (eBin opIn (eC (.str "")) (eSl (eVar 8) (oSome (eC (.int 1))) oNo))) (tOfE (eBin opIn (eSl (eVar 8) (oSome (eC (.int 2))) (oSome (eC (.int 4)))) (eLc (iSeq (eSl (eVar 3) oNo (oSome (eVar 7)))) (gN 14) tYesD (eSl (eVar 14) (oSome (eC (.int 2))) (oSome (eC (.int 4)))) [14])))) (sRet (eC (.bl false))) nxS)) (seqS (sAsg (eLc (iSeq (eVar 6)) (gN 15) tYesD (eSl (eVar 15) oNo (oSome (eC (.int 2)))) [15]) (gN 9)) (seqS (sFor (iRange1 (aCons (eVar 4) aNil)) (gN 10) (sFor (iRange1 (aCons (eVar 5) aNil)) (gN 11) (sIf (tOfE (eBin opNe (eBin opIn (eTup (aCons (eVar 10) (aCons (eVar 11) aNil))) (eVar 9)) (eOrV (eBin opEq (eVar 11) (eC (.int 0))) (eBin opEq (eVar 10) (eBin opSub (eVar 4) (eC (.int 1))))))) (sRet (eC (.bl false))) nxS))) (sRet (eC (.bl true))))))))
def F_law_look : Fn := fn0 (fnOf 16 1 m_law_look)
def m_law_with : Sm := (sRet (eBin opAdd (eBin opAdd (eSl (eVar 0) oNo (oSome (eVar 1))) (eTup (aCons (eVar 2) aNil))) (eSl (eVar 0) (oSome (eBin opAdd (eVar 1) (eC (.int 1)))) oNo)))
def F_law_with : Fn := fn0 (fnOf 3 3 m_law_with)
def m_law_house_otherwise : Sm := (seqS (sAsg (eVar 1) (gT 3 (gsCons (gN 2) (gsCons (gN 3) (gsCons (gN 4) gsNil))))) (seqS (sAsg (eCall F_law_next (aCons (eVar 0) (aCons (eC (.int 5)) aNil))) (gN 5)) (seqS (sAsg (eCall F_law_next (aCons (eVar 0) (aCons (eCB cLen (aCons (eVar 4) aNil)) aNil))) (gN 6)) (seqS (sIf (tOfE (eBin opEq (eVar 5) (eC (.int 0)))) (sRet (eTup (aCons (eBin opIx (eLst (aCons (eC (.int 1)) (aCons (eC (.int 3)) (aCons (eC (.int 4)) aNil)))) (eCall F_law_next (aCons (eVar 0) (aCons (eC (.int 3)) aNil)))) (aCons (eVar 3) (aCons (eVar 4) aNil))))) nxS) (seqS (sIf (tOfE (eBin opEq (eVar 5) (eC (.int 1)))) (seqS (sAsg (eCall F_law_next (aCons (eVar 0) (aCons (eCB cLen (aCons (eVar 3) aNil)) aNil))) (gN 7)) (sRet (eTup (aCons (eVar 2) (aCons (eCall F_law_with (aCons (eVar 3) (aCons (eVar 7) (aCons (eTup (aCons (eBin opIx (eBin opIx (eVar 3) (eVar 7)) (eC (.int 0))) (aCons (eBin opAdd (eC (.int 1)) (eCall F_law_next (aCons (eVar 0) (aCons (eC (.int 4)) aNil)))) aNil))) aNil)))) (aCons (eVar 4) aNil)))))) nxS) (seqS (sIf (tOfE (eBin opEq (eVar 5) (eC (.int 2)))) (seqS (sAsg (eBin opIx (eBin opAdd (eTup (aCons (eC (.str "")) aNil)) (eCB cTup (aCons (eLc (iSeq (eVar 3)) (gT 2 (gsCons (gN 10) (gsCons (gN 11) gsNil))) tYesD (eVar 10) [10, 11]) aNil))) (eCall F_law_next (aCons (eVar 0) (aCons (eBin opAdd (eCB cLen (aCons (eVar 3) aNil)) (eC (.int 1))) aNil)))) (gN 8)) (sRet (eTup (aCons (eVar 2) (aCons (eVar 3) (aCons (eCall F_law_with (aCons (eVar 4) (aCons (eVar 6) (aCons (eCall F_law_with (aCons (eBin opIx (eVar 4) (eVar 6)) (aCons (eBin opAdd (eC (.int 1)) (eCall F_law_next (aCons (eVar 0) (aCons (eC (.int 4)) aNil)))) (aCons (eVar 8) aNil)))) aNil)))) aNil)))))) nxS) (seqS (sAsg (eBin opIx (eVar 4) (eCall F_law_next (aCons (eVar 0) (aCons (eCB cLen (aCons (eVar 4) aNil)) aNil)))) (gN 9)) (seqS (sIf (tOfE (eBin opEq (eVar 5) (eC (.int 3)))) (sRet (eTup (aCons (eVar 2) (aCons (eVar 3) (aCons (eBin opAdd (eVar 4) (eTup (aCons (eVar 9) aNil))) aNil))))) nxS) (sRet (eTup (aCons (eVar 2) (aCons (eVar 3) (aCons (eCall F_law_with (aCons (eVar 4) (aCons (eVar 6) (aCons (eBin opAdd (eBin opAdd (eSl (eBin opIx (eVar 4) (eVar 6)) oNo (oSome (eC (.int 2)))) (eSl (eVar 9) (oSome (eC (.int 2))) (oSome (eC (.int 4))))) (eSl (eBin opIx (eVar 4) (eVar 6)) (oSome (eC (.int 4))) oNo)) aNil)))) aNil)))))))))))))
def F_law_house_otherwise : Fn := fn0 (fnOf 12 2 m_law_house_otherwise)
def m_law_otherwise : Sm := (seqS (sAsg (eVar 1) (gT 3 (gsCons (gN 2) (gsCons (gT 2 (gsCons (gN 3) (gsCons (gN 4) gsNil))) (gsCons (gN 5) gsNil))))) (seqS (sAsg (eCall F_law_next (aCons (eVar 0) (aCons (eC (.int 8)) aNil))) (gN 6)) (seqS (sIf (tOfE (eBin opLt (eVar 6) (eC (.int 4)))) (sRet (eTup (aCons (eCall F_law_house_otherwise (aCons (eVar 0) (aCons (eVar 2) aNil))) (aCons (eBin opIx (eVar 1) (eC (.int 1))) (aCons (eVar 5) aNil))))) nxS) (seqS (sAsg (eCall F_law_next (aCons (eVar 0) (aCons (eCB cLen (aCons (eVar 5) aNil)) aNil))) (gN 7)) (seqS (sIf (tOfE (eBin opEq (eVar 6) (eC (.int 4)))) (sRet (eTup (aCons (eVar 2) (aCons (eBin opIx (eVar 1) (eC (.int 1))) (aCons (eBin opAdd (eSl (eVar 5) oNo (oSome (eVar 7))) (eSl (eVar 5) (oSome (eBin opAdd (eVar 7) (eC (.int 1)))) oNo)) aNil))))) nxS) (seqS (sIf (tOfE (eBin opEq (eVar 6) (eC (.int 5)))) (sRet (eTup (aCons (eVar 2) (aCons (eBin opIx (eVar 1) (eC (.int 1))) (aCons (eCall F_law_with (aCons (eVar 5) (aCons (eVar 7) (aCons (eBin opAdd (eSl (eBin opIx (eVar 5) (eVar 7)) oNo (oSome (eC (.int 2)))) (eTup (aCons (eCall F_law_next (aCons (eVar 0) (aCons (eCB cLen (aCons (eBin opIx (eVar 2) (eC (.int 2))) aNil)) aNil))) aNil))) aNil)))) aNil))))) nxS) (seqS (sIf (tOfE (eBin opEq (eVar 6) (eC (.int 6)))) (seqS (sAsg (eLc (iSeq (eVar 5)) (gN 12) tYesD (eSl (eVar 12) oNo (oSome (eC (.int 2)))) [12]) (gN 8)) (seqS (sAsg (eLst aNil) (gN 9)) (seqS (sFor (iRange1 (aCons (eVar 3) aNil)) (gN 10) (sExpr (eMeth "list" mExtend (eVar 9) (aCons (eLc (iRange1 (aCons (eVar 4) aNil)) (gN 13) (tOfE (eBin opNotIn (eTup (aCons (eVar 10) (aCons (eVar 13) aNil))) (eVar 8))) (eTup (aCons (eVar 10) (aCons (eVar 13) aNil))) [13]) aNil)))) (seqS (sAsg (eIf (tOfE (eNeNil (eVar 9))) (eLst (aCons (eBin opAdd (eBin opIx (eVar 9) (eCall F_law_next (aCons (eVar 0) (aCons (eCB cLen (aCons (eVar 9) aNil)) aNil)))) (eTup (aCons (eC (.int 0)) aNil))) aNil)) (eLst aNil)) (gN 11)) (sRet (eTup (aCons (eVar 2) (aCons (eBin opIx (eVar 1) (eC (.int 1))) (aCons (eCB cTup (aCons (eCB cSorted (aCons (eBin opAdd (eCB cLst (aCons (eVar 5) aNil)) (eVar 11)) aNil)) aNil)) aNil))))))))) nxS) (sRet (eTup (aCons (eVar 2) (aCons (eBin opIx (eLst (aCons (eTup (aCons (eCB cMin2 (aCons (eC (.int 12)) (aCons (eBin opAdd (eVar 3) (eC (.int 1))) aNil))) (aCons (eVar 4) aNil))) (aCons (eTup (aCons (eVar 3) (aCons (eCB cMin2 (aCons (eC (.int 12)) (aCons (eBin opAdd (eVar 4) (eC (.int 1))) aNil))) aNil))) aNil))) (eCall F_law_next (aCons (eVar 0) (aCons (eC (.int 2)) aNil)))) (aCons (eVar 5) aNil))))))))))))
def F_law_otherwise : Fn := fn0 (fnOf 14 2 m_law_otherwise)
def m_law : Sm := (seqS (sAsg (eCall F_law_start (aCons (eVar 0) aNil)) (gN 1)) (seqS (sFor (iRange1 (aCons (eC (.int 3)) aNil)) (gN 2) (seqS (sAsg (eCall F_law_framed (aCons (eVar 1) (aCons (eBin opIx (eLst (aCons (eC (.int 4)) (aCons (eC (.int 12)) aNil))) (eCB cInt (aCons (eBin opEq (eCall F_law_next (aCons (eVar 1) (aCons (eC (.int 4)) aNil))) (eC (.int 0))) aNil))) (aCons (eC (.int 9)) aNil)))) (gN 3)) (seqS (sFor (iRange1 (aCons (eC (.int 10)) aNil)) (gN 4) (seqS (sAsg (eCall F_law_otherwise (aCons (eVar 1) (aCons (eVar 3) aNil))) (gN 5)) (seqS (sIf (tOfE (eBin opEq (eCall F_law_next (aCons (eVar 1) (aCons (eC (.int 4)) aNil))) (eC (.int 0)))) (sAsg (eIf (tOfE (eBin opNe (eBin opIx (eVar 5) (eC (.int 2))) (eTup aNil))) (eCall F_law_otherwise (aCons (eVar 1) (aCons (eVar 5) aNil))) (eVar 5)) (gN 5)) nxS) (seqS (sAsg (eCall F_is_framed (aCons (eVar 5) aNil)) (gN 6)) (sIf (tOrD (tOfE (eBin opNotB (eCall F_is_framed (aCons (eVar 3) aNil)) (eC (.bl true)))) (tOrD (tNotD (tTru (eCB cIsi (aCons (eVar 6) (aCons (eC (.ty "bool")) aNil))))) (tOfE (eBin opNe (eVar 6) (eCall F_law_look (aCons (eVar 5) aNil)))))) (sRet (eC (.bl false))) nxS))))) (sIf (tOfE (eBin opNotB (eCall F_is_framed (aCons (eTup (aCons (eBin opIx (eVar 3) (eC (.int 0))) (aCons (eBin opIx (eVar 3) (eC (.int 1))) (aCons (eTup aNil) aNil)))) aNil)) (eC (.bl false)))) (sRet (eC (.bl false))) nxS)))) (sRet (eC (.bl true)))))
def F_law : Fn := fn0 (fnOf 7 1 m_law)
/-! ### they are what the defs do -/
section
variable {P : Program} {w : World} {K : PySem.W.Frag} {mg : Str → Option Value} {base : Heap}
theorem b_frame_of (z_range : mg "range" = none) : ∀ (f : Addr) (cdv : Value) (A : Around) (outer : List PySem.Env) (s : Shared) (H : Hp) (E : XK), Room 0 (A.deeper (envOfC "frame_of" (defScope s_frame_of) s.heap.objs.size f cdv)) →
    PSs (cxOf CX0 P w K mg base N_frame_of "frame_of" (defScope s_frame_of) f cdv A outer s H E).nox (defBody s_frame_of) (tS ⟨K, mg, E0⟩ m_frame_of) :=
  fun _ _ _ _ _ _ _ hr => (ds_cons (ds_set 2 sc_frame_of.nd (d_lst da_nil)) (ds_cons (ds_for PassesOwn.never rfl (di_range1 z_range (da_cons (d_var 0) da_nil)) (dg_name 3 sc_frame_of.nd) (ds_one (ds_expr (d_meth PySem.F.plainAttrs_list PySem.F.slot_list_extend PySem.F.type_list_extend mt_extend sat_extend (d_var 2) (da_cons (d_lc rfl sc_frame_of.nd (own := [("y", 4)]) (di_range1 z_range (da_cons (d_var 1) da_nil)) (blkI (N := N_frame_of) (sc := defScope s_frame_of) (by decide +kernel)) (fun _ _ _ _ _ => (dg_name 4 sc_frame_of.nd)) (fun _ _ _ _ _ => (dts_one (PW.pt (w_or (t_cmp (op_eqD hr.units) sat_eq (d_var 4) d_int) (w_or1 (t_cmp (op_eqD hr.units) sat_eq (d_var 3) (d_bin op_sub sat_sub (d_var 0) d_int))))))) (fun _ _ _ _ _ => (d_tup (da_cons (d_var 3) (da_cons (d_var 4) da_nil))))) da_nil))))) (ds_one (ds_ret (d_var 2)))))
theorem d_frame_of (A : DefAt K mg "frame_of" "frame_of" s_frame_of ["wide", "high"]) (z_range : mg "range" = none) : DefOk P w K mg base CX0 1 "frame_of" 2 F_frame_of :=
  A.ok0 sc_frame_of rfl rfl (b_frame_of z_range)
theorem b_is_framed (c_frame_of : DefOk P w K mg base CX0 1 "frame_of" 2 F_frame_of) (z_any : mg "any" = none) (z_len : mg "len" = none) (z_set : mg "set" = none) (g_FRAMED_ENOUGH : GlobK K mg "FRAMED_ENOUGH" (.int 2)) : ∀ (f : Addr) (cdv : Value) (A : Around) (outer : List PySem.Env) (s : Shared) (H : Hp) (E : XK), Room 1 (A.deeper (envOfC "is_framed" (defScope s_is_framed) s.heap.objs.size f cdv)) →
    PSs (cxOf CX0 P w K mg base N_is_framed "is_framed" (defScope s_is_framed) f cdv A outer s H E).nox (defBody s_is_framed) (tS ⟨K, mg, E0⟩ m_is_framed) :=
  fun _ _ _ _ _ _ _ hr => (ds_cons (ds_asg (d_var 0) (dg_tup rfl (dgs_cons (dg_tup rfl (dgs_cons (dg_name 1 sc_is_framed.nd) (dgs_cons (dg_name 2 sc_is_framed.nd) (dgs_cons (dg_name 3 sc_is_framed.nd) dgs_nil)))) (dgs_cons (dg_tup rfl (dgs_cons (dg_name 4 sc_is_framed.nd) (dgs_cons (dg_name 5 sc_is_framed.nd) dgs_nil))) (dgs_cons (dg_name 6 sc_is_framed.nd) dgs_nil))))) (ds_cons (ds_if (PW.pt (w_or (t_cmp (op_neD hr.units) sat_ne (d_var 1) (d_globK g_FRAMED_ENOUGH)) (w_or1 (t_tru (d_callB (cr_any rfl) sat_any z_any (da_cons (d_lc rfl sc_is_framed.nd (own := [("name", 8), ("strength", 9)]) (di_seq (d_var 2)) (blkI (N := N_is_framed) (sc := defScope s_is_framed) (by decide +kernel)) (fun _ _ _ _ _ => (dg_tup rfl (dgs_cons (dg_name 8 sc_is_framed.nd) (dgs_cons (dg_name 9 sc_is_framed.nd) dgs_nil)))) (fun _ _ _ _ _ => dts_nil) (fun _ _ _ _ _ => (d_cmp (op_neD hr.units) sat_ne (d_var 9) d_int))) da_nil)))))) (ds_one (ds_ret d_bl)) ds_nil) (ds_cons (ds_if (t_tru (d_callB (cr_any rfl) sat_any z_any (da_cons (d_lc rfl sc_is_framed.nd (own := [("kind", 10)]) (di_seq (d_var 3)) (blkI (N := N_is_framed) (sc := defScope s_is_framed) (by decide +kernel)) (fun _ _ _ _ _ => (dg_name 10 sc_is_framed.nd)) (fun _ _ _ _ _ => dts_nil) (fun _ _ _ _ _ => (d_cmp (op_inA hr.u65) sat_in d_str (d_sl (d_var 10) (do_some d_int) do_no)))) da_nil))) (ds_one (ds_ret d_bl)) ds_nil) (ds_cons (ds_setLc 7 rfl sc_is_framed.nd rfl rfl (sw_true rfl rfl rfl (by decide +kernel)) (own := [("face", 11), ("north", 12), ("east", 13), ("south", 14), ("west", 15)]) (di_seq (d_var 3)) (blkI (N := N_is_framed) (sc := defScope s_is_framed) (by decide +kernel)) (fun _ _ _ _ _ => (dg_tup rfl (dgs_cons (dg_name 11 sc_is_framed.nd) (dgs_cons (dg_name 12 sc_is_framed.nd) (dgs_cons (dg_name 13 sc_is_framed.nd) (dgs_cons (dg_name 14 sc_is_framed.nd) (dgs_cons (dg_name 15 sc_is_framed.nd) dgs_nil))))))) (fun _ _ _ _ _ => dts_nil) (fun _ _ _ _ _ => (d_tup (da_cons (d_var 14) (da_cons (d_var 13) da_nil))))) (ds_one (ds_ret (d_and (d_cmp (op_eqD hr.units) sat_eq (d_lenSet hr.units z_len z_set (d_var 7)) (d_callB call_lenA sat_len z_len (da_cons (d_var 7) da_nil))) (d_one (d_cmp (op_eqD hr.units) sat_eq (d_lc rfl sc_is_framed.nd (own := [("x", 16), ("y", 17), ("kind", 10)]) (di_seq (d_var 6)) (blkI (N := N_is_framed) (sc := defScope s_is_framed) (by decide +kernel)) (fun _ _ _ _ _ => (dg_tup rfl (dgs_cons (dg_name 16 sc_is_framed.nd) (dgs_cons (dg_name 17 sc_is_framed.nd) (dgs_cons (dg_name 10 sc_is_framed.nd) dgs_nil))))) (fun _ _ _ _ _ => dts_nil) (fun _ _ _ _ _ => (d_tup (da_cons (d_var 16) (da_cons (d_var 17) da_nil))))) (d_call c_frame_of pass0 (hr.mono (by decide)) (da_cons (d_var 4) (da_cons (d_var 5) da_nil))))))))))))
theorem d_is_framed (A : DefAt K mg "is_framed" "is_framed" s_is_framed ["bed"]) (c_frame_of : DefOk P w K mg base CX0 1 "frame_of" 2 F_frame_of) (z_any : mg "any" = none) (z_len : mg "len" = none) (z_set : mg "set" = none) (g_FRAMED_ENOUGH : GlobK K mg "FRAMED_ENOUGH" (.int 2)) : DefOk P w K mg base CX0 2 "is_framed" 1 F_is_framed :=
  A.ok0 sc_is_framed rfl rfl (b_is_framed c_frame_of z_any z_len z_set g_FRAMED_ENOUGH)
theorem b_law_start (z_abs : mg "abs" = none) (z_enumerate : mg "enumerate" = none) : ∀ (f : Addr) (cdv : Value) (A : Around) (outer : List PySem.Env) (s : Shared) (H : Hp) (E : XK), Room 0 (A.deeper (envOfC "_law_start" (defScope s_law_start) s.heap.objs.size f cdv)) →
    PSs (cxOf CX0 P w K mg base N_law_start "_law_start" (defScope s_law_start) f cdv A outer s H E).nox (defBody s_law_start) (tS ⟨K, mg, E0⟩ m_law_start) :=
  fun _ _ _ _ _ _ _ hr => (ds_cons (ds_set 1 sc_law_start.nd d_int) (ds_cons (ds_for PassesOwn.never rfl (di_enum z_enumerate (da_cons (d_sl (d_var 0) do_no (do_some d_int)) da_nil)) (dg_tup rfl (dgs_cons (dg_name 2 sc_law_start.nd) (dgs_cons (dg_name 3 sc_law_start.nd) dgs_nil))) (ds_one (ds_set 1 sc_law_start.nd (d_bin op_mod sat_mod (d_bin op_addD sat_add (d_bin op_addD sat_add (d_bin op_addD sat_add (d_bin op_mulA sat_mul (d_var 1) d_int) (d_bin op_mod sat_mod (d_var 3) d_int)) (d_bin op_mulA sat_mul d_int (d_var 2))) d_int) d_int)))) (ds_one (ds_ret (d_lst (da_cons (d_lc rfl sc_law_start.nd (own := [("_law_cell", 3)]) (di_seq (d_sl (d_var 0) do_no (do_some d_int))) (blkI (N := N_law_start) (sc := defScope s_law_start) (by decide +kernel)) (fun _ _ _ _ _ => (dg_name 3 sc_law_start.nd)) (fun _ _ _ _ _ => (dts_one (t_cmp op_ge sat_cmp (d_callB call_abs sat_abs z_abs (da_cons (d_var 3) da_nil)) (d_bin op_pow sat_pow d_int d_int)))) (fun _ _ _ _ _ => (d_callB call_abs sat_abs z_abs (da_cons (d_var 3) da_nil)))) (da_cons (d_var 1) da_nil)))))))
theorem d_law_start (A : DefAt K mg "_law_start" "_law_start" s_law_start ["_law_script"]) (z_abs : mg "abs" = none) (z_enumerate : mg "enumerate" = none) : DefOk P w K mg base CX0 1 "_law_start" 1 F_law_start :=
  A.ok0 sc_law_start rfl rfl (b_law_start z_abs z_enumerate)
theorem b_law_next  : ∀ (f : Addr) (cdv : Value) (A : Around) (outer : List PySem.Env) (s : Shared) (H : Hp) (E : XK), Room 0 (A.deeper (envOfC "_law_next" (defScope s_law_next) s.heap.objs.size f cdv)) →
    PSs (cxOf CX0 P w K mg base N_law_next "_law_next" (defScope s_law_next) f cdv A outer s H E).nox (defBody s_law_next) (tS ⟨K, mg, E0⟩ m_law_next) :=
  fun _ _ _ _ _ _ _ hr => (ds_cons (ds_while 1000 PassesOwn.never (PW.pt (w_and (t_neNilT hr.units (d_ix ix_seq sat_ix (d_var 0) d_int)) (w_and1 (t_cmp (op_eqD hr.units) sat_eq (d_ix ix_seq sat_ix (d_ix ix_seq sat_ix (d_var 0) d_int) d_int) d_int)))) (ds_one (ds_expr (d_meth PySem.F.plainAttrs_list PySem.F.slot_list_pop PySem.F.type_list_pop mt_popA sat_pop (d_ix ix_seq sat_ix (d_var 0) d_int) (da_cons d_int da_nil))))) (ds_cons (ds_if (t_neNilT hr.units (d_ix ix_seq sat_ix (d_var 0) d_int)) (ds_cons (ds_set 2 sc_law_next.nd (d_bin op_mod sat_mod (d_ix ix_seq sat_ix (d_ix ix_seq sat_ix (d_var 0) d_int) d_int) (d_var 1))) (ds_cons (ds_sub set_list sat_setL (d_bin op_fdivD sat_fdiv (d_ix ix_seq sat_ix (d_ix ix_seq sat_ix (d_var 0) d_int) d_int) (d_var 1)) (d_ix ix_seq sat_ix (d_var 0) d_int) d_int) (ds_one (ds_ret (d_var 2))))) ds_nil) (ds_cons (ds_sub set_list sat_setL (d_bin op_mod sat_mod (d_bin op_addD sat_add (d_bin op_mulA sat_mul (d_ix ix_seq sat_ix (d_var 0) d_int) d_int) d_int) d_int) (d_var 0) d_int) (ds_one (ds_ret (d_bin op_mod sat_mod (d_bin op_fdivD sat_fdiv (d_bin op_mod sat_mod (d_bin op_mulA sat_mul (d_ix ix_seq sat_ix (d_var 0) d_int) (d_bin op_addD sat_add (d_bin op_mod sat_mod (d_ix ix_seq sat_ix (d_var 0) d_int) d_int) d_int)) d_int) d_int) (d_var 1)))))))
theorem d_law_next (A : DefAt K mg "_law_next" "_law_next" s_law_next ["_law_state", "_law_many"])  : DefOk P w K mg base CX0 1 "_law_next" 2 F_law_next :=
  A.ok0 sc_law_next rfl rfl (b_law_next )
theorem b_law_names (c_law_next : DefOk P w K mg base CX0 1 "_law_next" 2 F_law_next) (z_range : mg "range" = none) (z_sorted : mg "sorted" = none) : ∀ (f : Addr) (cdv : Value) (A : Around) (outer : List PySem.Env) (s : Shared) (H : Hp) (E : XK), Room 1 (A.deeper (envOfC "_law_names" (defScope s_law_names) s.heap.objs.size f cdv)) →
    PSs (cxOf CX0 P w K mg base N_law_names "_law_names" (defScope s_law_names) f cdv A outer s H E).nox (defBody s_law_names) (tS ⟨K, mg, E0⟩ m_law_names) :=
  fun _ _ _ _ _ _ _ hr => (ds_cons (ds_set 2 sc_law_names.nd d_str) (ds_cons (ds_asg (d_tup (da_cons (d_call c_law_next pass0 (hr.mono (by decide)) (da_cons (d_var 0) (da_cons d_int da_nil))) (da_cons (d_ix ix_seq sat_ix (d_lst (da_cons d_int (da_cons d_int (da_cons d_int (da_cons d_int (da_cons d_int (da_cons d_int da_nil))))))) (d_call c_law_next pass0 (hr.mono (by decide)) (da_cons (d_var 0) (da_cons d_int da_nil)))) da_nil))) (dg_tup rfl (dgs_cons (dg_name 3 sc_law_names.nd) (dgs_cons (dg_name 4 sc_law_names.nd) dgs_nil)))) (ds_cons (ds_set 5 sc_law_names.nd (d_call c_law_next pass0 (hr.mono (by decide)) (da_cons (d_var 0) (da_cons d_int da_nil)))) (ds_cons (ds_set 6 sc_law_names.nd (d_meth PySem.F.plainAttrs_str PySem.F.slot_str_join PySem.F.type_str_join mt_join sat_join d_str (da_cons (d_lc rfl sc_law_names.nd (own := [("_law_k", 8)]) (di_range1 z_range (da_cons (d_var 5) da_nil)) (blkI (N := N_law_names) (sc := defScope s_law_names) (by decide +kernel)) (fun _ _ _ _ _ => (dg_name 8 sc_law_names.nd)) (fun _ _ _ _ _ => dts_nil) (fun _ _ _ _ _ => (d_ix ix_seq sat_ix (d_var 2) (d_call c_law_next pass0 (hr.mono (by decide)) (da_cons (d_var 0) (da_cons d_int da_nil)))))) da_nil))) (ds_cons (ds_set 7 sc_law_names.nd (d_call c_law_next pass0 (hr.mono (by decide)) (da_cons (d_var 0) (da_cons (d_bin op_addD sat_add (d_var 5) d_int) da_nil)))) (ds_cons (ds_if (PW.pt (w_and (t_cmp op_lt sat_cmp (d_var 1) d_int) (w_and1 (t_cmp (op_eqD hr.units) sat_eq (d_call c_law_next pass0 (hr.mono (by decide)) (da_cons (d_var 0) (da_cons d_int da_nil))) d_int)))) (ds_one (ds_ret (d_callB (cr_sortD hr.units) sat_sorted z_sorted (da_cons (d_lc rfl sc_law_names.nd (own := [("_law_k", 8)]) (di_range1 z_range (da_cons (d_var 1) da_nil)) (blkI (N := N_law_names) (sc := defScope s_law_names) (by decide +kernel)) (fun _ _ _ _ _ => (dg_name 8 sc_law_names.nd)) (fun _ _ _ _ _ => dts_nil) (fun _ _ _ _ _ => (d_bin op_mulA sat_mul (d_ix ix_seq sat_ix (d_var 2) (d_var 3)) (d_bin op_addD sat_add (d_var 8) d_int)))) da_nil)))) ds_nil) (ds_one (ds_ret (d_callB (cr_sortD hr.units) sat_sorted z_sorted (da_cons (d_lc rfl sc_law_names.nd (own := [("_law_k", 8)]) (di_range1 z_range (da_cons (d_var 1) da_nil)) (blkI (N := N_law_names) (sc := defScope s_law_names) (by decide +kernel)) (fun _ _ _ _ _ => (dg_name 8 sc_law_names.nd)) (fun _ _ _ _ _ => dts_nil) (fun _ _ _ _ _ => (d_bin op_addD sat_add (d_bin op_addD sat_add (d_sl (d_var 6) do_no (do_some (d_var 7))) (d_ix ix_seq sat_ix (d_var 2) (d_bin op_mod sat_mod (d_bin op_addD sat_add (d_var 3) (d_bin op_mulA sat_mul (d_var 4) (d_var 8))) d_int))) (d_sl (d_var 6) (do_some (d_var 7)) do_no)))) da_nil))))))))))
theorem d_law_names (A : DefAt K mg "_law_names" "_law_names" s_law_names ["_law_state", "_law_many"]) (c_law_next : DefOk P w K mg base CX0 1 "_law_next" 2 F_law_next) (z_range : mg "range" = none) (z_sorted : mg "sorted" = none) : DefOk P w K mg base CX0 2 "_law_names" 2 F_law_names :=
  A.ok0 sc_law_names rfl rfl (b_law_names c_law_next z_range z_sorted)
theorem b_law_framed (c_law_next : DefOk P w K mg base CX0 1 "_law_next" 2 F_law_next) (c_law_names : DefOk P w K mg base CX0 2 "_law_names" 2 F_law_names) (z_len : mg "len" = none) (z_min : mg "min" = none) (z_range : mg "range" = none) (z_tuple : mg "tuple" = none) : ∀ (f : Addr) (cdv : Value) (A : Around) (outer : List PySem.Env) (s : Shared) (H : Hp) (E : XK), Room 2 (A.deeper (envOfC "_law_framed" (defScope s_law_framed) s.heap.objs.size f cdv)) →
    PSs (cxOf CX0 P w K mg base N_law_framed "_law_framed" (defScope s_law_framed) f cdv A outer s H E).nox (defBody s_law_framed) (tS ⟨K, mg, E0⟩ m_law_framed) :=
  fun _ _ _ _ _ _ _ hr => (ds_cons (ds_set 3 sc_law_framed.nd (d_call c_law_names pass0 (hr.mono (by decide)) (da_cons (d_var 0) (da_cons (d_bin op_addD sat_add d_int (d_call c_law_next pass0 (hr.mono (by decide)) (da_cons (d_var 0) (da_cons d_int da_nil)))) da_nil)))) (ds_cons (ds_set 4 sc_law_framed.nd (d_callB call_lenA sat_len z_len (da_cons (d_var 3) da_nil))) (ds_cons (ds_set 5 sc_law_framed.nd (d_lst da_nil)) (ds_cons (ds_for PassesOwn.never rfl (di_seq (d_var 3)) (dg_name 6 sc_law_framed.nd) (ds_one (ds_expr (d_meth PySem.F.plainAttrs_list PySem.F.slot_list_extend PySem.F.type_list_extend mt_extend sat_extend (d_var 5) (da_cons (d_lc rfl sc_law_framed.nd (own := [("_law_east", 10)]) (di_seq (d_var 3)) (blkI (N := N_law_framed) (sc := defScope s_law_framed) (by decide +kernel)) (fun _ _ _ _ _ => (dg_name 10 sc_law_framed.nd)) (fun _ _ _ _ _ => dts_nil) (fun _ _ _ _ _ => (d_tup (da_cons (d_var 6) (da_cons (d_var 10) da_nil))))) da_nil))))) (ds_cons (ds_set 7 sc_law_framed.nd d_str) (ds_cons (ds_set 8 sc_law_framed.nd (d_lst da_nil)) (ds_cons (ds_for PassesOwn.never rfl (di_range1 z_range (da_cons (d_callB (call_min2 rfl) sat_min2 z_min (da_cons (d_callB call_lenA sat_len z_len (da_cons (d_var 5) da_nil)) (da_cons (d_bin op_addD sat_add d_int (d_call c_law_next pass0 (hr.mono (by decide)) (da_cons (d_var 0) (da_cons (d_var 2) da_nil)))) da_nil))) da_nil)) (dg_name 9 sc_law_framed.nd) (ds_cons (ds_asg (d_meth PySem.F.plainAttrs_list PySem.F.slot_list_pop PySem.F.type_list_pop mt_popA sat_pop (d_var 5) (da_cons (d_call c_law_next pass0 (hr.mono (by decide)) (da_cons (d_var 0) (da_cons (d_callB call_lenA sat_len z_len (da_cons (d_var 5) da_nil)) da_nil))) da_nil)) (dg_tup rfl (dgs_cons (dg_name 6 sc_law_framed.nd) (dgs_cons (dg_name 10 sc_law_framed.nd) dgs_nil)))) (ds_cons (ds_set 11 sc_law_framed.nd (d_ix ix_seq sat_ix (d_lst (da_cons d_str (da_cons (d_ix ix_seq sat_ix (d_var 7) (d_call c_law_next pass0 (hr.mono (by decide)) (da_cons (d_var 0) (da_cons d_int da_nil)))) da_nil))) (d_call c_law_next pass0 (hr.mono (by decide)) (da_cons (d_var 0) (da_cons d_int da_nil))))) (ds_one (ds_expr (d_meth PySem.F.plainAttrs_list PySem.F.slot_list_append PySem.F.type_list_append mt_append sat_append (d_var 8) (da_cons (d_tup (da_cons (d_var 11) (da_cons (d_ix ix_seq sat_ix (d_var 3) (d_call c_law_next pass0 (hr.mono (by decide)) (da_cons (d_var 0) (da_cons (d_var 4) da_nil)))) (da_cons (d_var 10) (da_cons (d_var 6) (da_cons (d_ix ix_seq sat_ix (d_var 3) (d_call c_law_next pass0 (hr.mono (by decide)) (da_cons (d_var 0) (da_cons (d_var 4) da_nil)))) da_nil)))))) da_nil))))))) (ds_cons (ds_par2 12 13 rfl sc_law_framed.nd (da_cons (d_bin op_addD sat_add d_int (d_call c_law_next pass0 (hr.mono (by decide)) (da_cons (d_var 0) (da_cons (d_var 1) da_nil)))) (da_cons (d_bin op_addD sat_add d_int (d_call c_law_next pass0 (hr.mono (by decide)) (da_cons (d_var 0) (da_cons (d_var 1) da_nil)))) da_nil))) (ds_cons (ds_set 14 sc_law_framed.nd (d_lst da_nil)) (ds_cons (ds_for PassesOwn.never rfl (di_range1 z_range (da_cons (d_var 12) da_nil)) (dg_name 15 sc_law_framed.nd) (ds_one (ds_for PassesOwn.never rfl (di_range1 z_range (da_cons (d_var 13) da_nil)) (dg_name 16 sc_law_framed.nd) (ds_one (ds_if (PW.pt (w_or (t_cmp (op_eqD hr.units) sat_eq (d_var 16) d_int) (w_or1 (t_cmp (op_eqD hr.units) sat_eq (d_var 15) (d_bin op_sub sat_sub (d_var 12) d_int))))) (ds_one (ds_expr (d_meth PySem.F.plainAttrs_list PySem.F.slot_list_append PySem.F.type_list_append mt_append sat_append (d_var 14) (da_cons (d_tup (da_cons (d_var 15) (da_cons (d_var 16) (da_cons (d_call c_law_next pass0 (hr.mono (by decide)) (da_cons (d_var 0) (da_cons (d_callB call_lenA sat_len z_len (da_cons (d_var 8) da_nil)) da_nil))) da_nil)))) da_nil)))) ds_nil))))) (ds_one (ds_ret (d_tup (da_cons (d_tup (da_cons d_int (da_cons (d_callTy call_tuple_of sat_tup z_tuple (da_cons (d_lc rfl sc_law_framed.nd (own := [("_law_name", 17)]) (di_seq (d_var 3)) (blkI (N := N_law_framed) (sc := defScope s_law_framed) (by decide +kernel)) (fun _ _ _ _ _ => (dg_name 17 sc_law_framed.nd)) (fun _ _ _ _ _ => dts_nil) (fun _ _ _ _ _ => (d_tup (da_cons (d_var 17) (da_cons d_int da_nil))))) da_nil)) (da_cons (d_callTy call_tuple_of sat_tup z_tuple (da_cons (d_var 8) da_nil)) da_nil)))) (da_cons (d_tup (da_cons (d_var 12) (da_cons (d_var 13) da_nil))) (da_cons (d_callTy call_tuple_of sat_tup z_tuple (da_cons (d_var 14) da_nil)) da_nil))))))))))))))))
theorem d_law_framed (A : DefAt K mg "_law_framed" "_law_framed" s_law_framed ["_law_state", "_law_most", "_law_kinds_most"]) (c_law_next : DefOk P w K mg base CX0 1 "_law_next" 2 F_law_next) (c_law_names : DefOk P w K mg base CX0 2 "_law_names" 2 F_law_names) (z_len : mg "len" = none) (z_min : mg "min" = none) (z_range : mg "range" = none) (z_tuple : mg "tuple" = none) : DefOk P w K mg base CX0 3 "_law_framed" 3 F_law_framed :=
  A.ok0 sc_law_framed rfl rfl (b_law_framed c_law_next c_law_names z_len z_min z_range z_tuple)
theorem b_law_look (z_enumerate : mg "enumerate" = none) (z_range : mg "range" = none) : ∀ (f : Addr) (cdv : Value) (A : Around) (outer : List PySem.Env) (s : Shared) (H : Hp) (E : XK), Room 0 (A.deeper (envOfC "_law_look" (defScope s_law_look) s.heap.objs.size f cdv)) →
    PSs (cxOf CX0 P w K mg base N_law_look "_law_look" (defScope s_law_look) f cdv A outer s H E).nox (defBody s_law_look) (tS ⟨K, mg, E0⟩ m_law_look) :=
  fun _ _ _ _ _ _ _ hr => (ds_cons (ds_asg (d_var 0) (dg_tup rfl (dgs_cons (dg_tup rfl (dgs_cons (dg_name 1 sc_law_look.nd) (dgs_cons (dg_name 2 sc_law_look.nd) (dgs_cons (dg_name 3 sc_law_look.nd) dgs_nil)))) (dgs_cons (dg_tup rfl (dgs_cons (dg_name 4 sc_law_look.nd) (dgs_cons (dg_name 5 sc_law_look.nd) dgs_nil))) (dgs_cons (dg_name 6 sc_law_look.nd) dgs_nil))))) (ds_cons (ds_if (PW.pt (w_or (t_cmp (op_neD hr.units) sat_ne (d_var 1) d_int) (w_or1 (t_neNilT hr.units (d_lc rfl sc_law_look.nd (own := [("_law_name", 12), ("_law_strength", 13)]) (di_seq (d_var 2)) (blkI (N := N_law_look) (sc := defScope s_law_look) (by decide +kernel)) (fun _ _ _ _ _ => (dg_tup rfl (dgs_cons (dg_name 12 sc_law_look.nd) (dgs_cons (dg_name 13 sc_law_look.nd) dgs_nil)))) (fun _ _ _ _ _ => (dts_one (t_cmp (op_neD hr.units) sat_ne (d_var 13) d_int))) (fun _ _ _ _ _ => (d_var 12))))))) (ds_one (ds_ret d_bl)) ds_nil) (ds_cons (ds_for PassesOwn.never rfl (di_enum z_enumerate (da_cons (d_var 3) da_nil)) (dg_tup rfl (dgs_cons (dg_name 7 sc_law_look.nd) (dgs_cons (dg_name 8 sc_law_look.nd) dgs_nil))) (ds_one (ds_if (PW.pt (w_or (t_cmp (op_inA hr.u65) sat_in d_str (d_sl (d_var 8) (do_some d_int) do_no)) (w_or1 (t_cmp (op_inA hr.u65) sat_in (d_sl (d_var 8) (do_some d_int) (do_some d_int)) (d_lc rfl sc_law_look.nd (own := [("_law_other", 14)]) (di_seq (d_sl (d_var 3) do_no (do_some (d_var 7)))) (blkI (N := N_law_look) (sc := defScope s_law_look) (by decide +kernel)) (fun _ _ _ _ _ => (dg_name 14 sc_law_look.nd)) (fun _ _ _ _ _ => dts_nil) (fun _ _ _ _ _ => (d_sl (d_var 14) (do_some d_int) (do_some d_int)))))))) (ds_one (ds_ret d_bl)) ds_nil))) (ds_cons (ds_setLc 9 rfl sc_law_look.nd rfl rfl (sw_true rfl rfl rfl (by decide +kernel)) (own := [("_law_tile", 15)]) (di_seq (d_var 6)) (blkI (N := N_law_look) (sc := defScope s_law_look) (by decide +kernel)) (fun _ _ _ _ _ => (dg_name 15 sc_law_look.nd)) (fun _ _ _ _ _ => dts_nil) (fun _ _ _ _ _ => (d_sl (d_var 15) do_no (do_some d_int)))) (ds_cons (ds_for PassesOwn.never rfl (di_range1 z_range (da_cons (d_var 4) da_nil)) (dg_name 10 sc_law_look.nd) (ds_one (ds_for PassesOwn.never rfl (di_range1 z_range (da_cons (d_var 5) da_nil)) (dg_name 11 sc_law_look.nd) (ds_one (ds_if (t_cmp (op_neD hr.units) sat_ne (d_cmp (op_inA hr.u65) sat_in (d_tup (da_cons (d_var 10) (da_cons (d_var 11) da_nil))) (d_var 9)) (d_or (d_cmp (op_eqD hr.units) sat_eq (d_var 11) d_int) (d_one (d_cmp (op_eqD hr.units) sat_eq (d_var 10) (d_bin op_sub sat_sub (d_var 4) d_int))))) (ds_one (ds_ret d_bl)) ds_nil))))) (ds_one (ds_ret d_bl)))))))
theorem d_law_look (A : DefAt K mg "_law_look" "_law_look" s_law_look ["_law_bed"]) (z_enumerate : mg "enumerate" = none) (z_range : mg "range" = none) : DefOk P w K mg base CX0 1 "_law_look" 1 F_law_look :=
  A.ok0 sc_law_look rfl rfl (b_law_look z_enumerate z_range)
theorem b_law_with  : ∀ (f : Addr) (cdv : Value) (A : Around) (outer : List PySem.Env) (s : Shared) (H : Hp) (E : XK), Room 0 (A.deeper (envOfC "_law_with" (defScope s_law_with) s.heap.objs.size f cdv)) →
    PSs (cxOf CX0 P w K mg base N_law_with "_law_with" (defScope s_law_with) f cdv A outer s H E).nox (defBody s_law_with) (tS ⟨K, mg, E0⟩ m_law_with) :=
  fun _ _ _ _ _ _ _ hr => (ds_one (ds_ret (d_bin op_addD sat_add (d_bin op_addD sat_add (d_sl (d_var 0) do_no (do_some (d_var 1))) (d_tup (da_cons (d_var 2) da_nil))) (d_sl (d_var 0) (do_some (d_bin op_addD sat_add (d_var 1) d_int)) do_no))))
theorem d_law_with (A : DefAt K mg "_law_with" "_law_with" s_law_with ["_law_things", "_law_at", "_law_thing"])  : DefOk P w K mg base CX0 1 "_law_with" 3 F_law_with :=
  A.ok0 sc_law_with rfl rfl (b_law_with )
theorem b_law_house_otherwise (c_law_next : DefOk P w K mg base CX0 1 "_law_next" 2 F_law_next) (c_law_with : DefOk P w K mg base CX0 1 "_law_with" 3 F_law_with) (z_len : mg "len" = none) (z_tuple : mg "tuple" = none) : ∀ (f : Addr) (cdv : Value) (A : Around) (outer : List PySem.Env) (s : Shared) (H : Hp) (E : XK), Room 1 (A.deeper (envOfC "_law_house_otherwise" (defScope s_law_house_otherwise) s.heap.objs.size f cdv)) →
    PSs (cxOf CX0 P w K mg base N_law_house_otherwise "_law_house_otherwise" (defScope s_law_house_otherwise) f cdv A outer s H E).nox (defBody s_law_house_otherwise) (tS ⟨K, mg, E0⟩ m_law_house_otherwise) :=
  fun _ _ _ _ _ _ _ hr => (ds_cons (ds_asg (d_var 1) (dg_tup rfl (dgs_cons (dg_name 2 sc_law_house_otherwise.nd) (dgs_cons (dg_name 3 sc_law_house_otherwise.nd) (dgs_cons (dg_name 4 sc_law_house_otherwise.nd) dgs_nil))))) (ds_cons (ds_set 5 sc_law_house_otherwise.nd (d_call c_law_next pass0 (hr.mono (by decide)) (da_cons (d_var 0) (da_cons d_int da_nil)))) (ds_cons (ds_set 6 sc_law_house_otherwise.nd (d_call c_law_next pass0 (hr.mono (by decide)) (da_cons (d_var 0) (da_cons (d_callB call_lenA sat_len z_len (da_cons (d_var 4) da_nil)) da_nil)))) (ds_cons (ds_if (t_cmp (op_eqD hr.units) sat_eq (d_var 5) d_int) (ds_one (ds_ret (d_tup (da_cons (d_ix ix_seq sat_ix (d_lst (da_cons d_int (da_cons d_int (da_cons d_int da_nil)))) (d_call c_law_next pass0 (hr.mono (by decide)) (da_cons (d_var 0) (da_cons d_int da_nil)))) (da_cons (d_var 3) (da_cons (d_var 4) da_nil)))))) ds_nil) (ds_cons (ds_if (t_cmp (op_eqD hr.units) sat_eq (d_var 5) d_int) (ds_cons (ds_set 7 sc_law_house_otherwise.nd (d_call c_law_next pass0 (hr.mono (by decide)) (da_cons (d_var 0) (da_cons (d_callB call_lenA sat_len z_len (da_cons (d_var 3) da_nil)) da_nil)))) (ds_one (ds_ret (d_tup (da_cons (d_var 2) (da_cons (d_call c_law_with pass0 (hr.mono (by decide)) (da_cons (d_var 3) (da_cons (d_var 7) (da_cons (d_tup (da_cons (d_ix ix_seq sat_ix (d_ix ix_seq sat_ix (d_var 3) (d_var 7)) d_int) (da_cons (d_bin op_addD sat_add d_int (d_call c_law_next pass0 (hr.mono (by decide)) (da_cons (d_var 0) (da_cons d_int da_nil)))) da_nil))) da_nil)))) (da_cons (d_var 4) da_nil))))))) ds_nil) (ds_cons (ds_if (t_cmp (op_eqD hr.units) sat_eq (d_var 5) d_int) (ds_cons (ds_set 8 sc_law_house_otherwise.nd (d_ix ix_seq sat_ix (d_bin op_addD sat_add (d_tup (da_cons d_str da_nil)) (d_callTy call_tuple_of sat_tup z_tuple (da_cons (d_lc rfl sc_law_house_otherwise.nd (own := [("_law_one", 10), ("_law_strength", 11)]) (di_seq (d_var 3)) (blkI (N := N_law_house_otherwise) (sc := defScope s_law_house_otherwise) (by decide +kernel)) (fun _ _ _ _ _ => (dg_tup rfl (dgs_cons (dg_name 10 sc_law_house_otherwise.nd) (dgs_cons (dg_name 11 sc_law_house_otherwise.nd) dgs_nil)))) (fun _ _ _ _ _ => dts_nil) (fun _ _ _ _ _ => (d_var 10))) da_nil))) (d_call c_law_next pass0 (hr.mono (by decide)) (da_cons (d_var 0) (da_cons (d_bin op_addD sat_add (d_callB call_lenA sat_len z_len (da_cons (d_var 3) da_nil)) d_int) da_nil))))) (ds_one (ds_ret (d_tup (da_cons (d_var 2) (da_cons (d_var 3) (da_cons (d_call c_law_with pass0 (hr.mono (by decide)) (da_cons (d_var 4) (da_cons (d_var 6) (da_cons (d_call c_law_with pass0 (hr.mono (by decide)) (da_cons (d_ix ix_seq sat_ix (d_var 4) (d_var 6)) (da_cons (d_bin op_addD sat_add d_int (d_call c_law_next pass0 (hr.mono (by decide)) (da_cons (d_var 0) (da_cons d_int da_nil)))) (da_cons (d_var 8) da_nil)))) da_nil)))) da_nil))))))) ds_nil) (ds_cons (ds_set 9 sc_law_house_otherwise.nd (d_ix ix_seq sat_ix (d_var 4) (d_call c_law_next pass0 (hr.mono (by decide)) (da_cons (d_var 0) (da_cons (d_callB call_lenA sat_len z_len (da_cons (d_var 4) da_nil)) da_nil))))) (ds_cons (ds_if (t_cmp (op_eqD hr.units) sat_eq (d_var 5) d_int) (ds_one (ds_ret (d_tup (da_cons (d_var 2) (da_cons (d_var 3) (da_cons (d_bin op_addD sat_add (d_var 4) (d_tup (da_cons (d_var 9) da_nil))) da_nil)))))) ds_nil) (ds_one (ds_ret (d_tup (da_cons (d_var 2) (da_cons (d_var 3) (da_cons (d_call c_law_with pass0 (hr.mono (by decide)) (da_cons (d_var 4) (da_cons (d_var 6) (da_cons (d_bin op_addD sat_add (d_bin op_addD sat_add (d_sl (d_ix ix_seq sat_ix (d_var 4) (d_var 6)) do_no (do_some d_int)) (d_sl (d_var 9) (do_some d_int) (do_some d_int))) (d_sl (d_ix ix_seq sat_ix (d_var 4) (d_var 6)) (do_some d_int) do_no)) da_nil)))) da_nil))))))))))))))
theorem d_law_house_otherwise (A : DefAt K mg "_law_house_otherwise" "_law_house_otherwise" s_law_house_otherwise ["_law_state", "_law_house"]) (c_law_next : DefOk P w K mg base CX0 1 "_law_next" 2 F_law_next) (c_law_with : DefOk P w K mg base CX0 1 "_law_with" 3 F_law_with) (z_len : mg "len" = none) (z_tuple : mg "tuple" = none) : DefOk P w K mg base CX0 2 "_law_house_otherwise" 2 F_law_house_otherwise :=
  A.ok0 sc_law_house_otherwise rfl rfl (b_law_house_otherwise c_law_next c_law_with z_len z_tuple)
theorem b_law_otherwise (c_law_next : DefOk P w K mg base CX0 1 "_law_next" 2 F_law_next) (c_law_house_otherwise : DefOk P w K mg base CX0 2 "_law_house_otherwise" 2 F_law_house_otherwise) (c_law_with : DefOk P w K mg base CX0 1 "_law_with" 3 F_law_with) (z_len : mg "len" = none) (z_list : mg "list" = none) (z_min : mg "min" = none) (z_range : mg "range" = none) (z_sorted : mg "sorted" = none) (z_tuple : mg "tuple" = none) : ∀ (f : Addr) (cdv : Value) (A : Around) (outer : List PySem.Env) (s : Shared) (H : Hp) (E : XK), Room 2 (A.deeper (envOfC "_law_otherwise" (defScope s_law_otherwise) s.heap.objs.size f cdv)) →
    PSs (cxOf CX0 P w K mg base N_law_otherwise "_law_otherwise" (defScope s_law_otherwise) f cdv A outer s H E).nox (defBody s_law_otherwise) (tS ⟨K, mg, E0⟩ m_law_otherwise) :=
  fun _ _ _ _ _ _ _ hr => (ds_cons (ds_asg (d_var 1) (dg_tup rfl (dgs_cons (dg_name 2 sc_law_otherwise.nd) (dgs_cons (dg_tup rfl (dgs_cons (dg_name 3 sc_law_otherwise.nd) (dgs_cons (dg_name 4 sc_law_otherwise.nd) dgs_nil))) (dgs_cons (dg_name 5 sc_law_otherwise.nd) dgs_nil))))) (ds_cons (ds_set 6 sc_law_otherwise.nd (d_call c_law_next pass0 (hr.mono (by decide)) (da_cons (d_var 0) (da_cons d_int da_nil)))) (ds_cons (ds_if (t_cmp op_lt sat_cmp (d_var 6) d_int) (ds_one (ds_ret (d_tup (da_cons (d_call c_law_house_otherwise pass0 (hr.mono (by decide)) (da_cons (d_var 0) (da_cons (d_var 2) da_nil))) (da_cons (d_ix ix_seq sat_ix (d_var 1) d_int) (da_cons (d_var 5) da_nil)))))) ds_nil) (ds_cons (ds_set 7 sc_law_otherwise.nd (d_call c_law_next pass0 (hr.mono (by decide)) (da_cons (d_var 0) (da_cons (d_callB call_lenA sat_len z_len (da_cons (d_var 5) da_nil)) da_nil)))) (ds_cons (ds_if (t_cmp (op_eqD hr.units) sat_eq (d_var 6) d_int) (ds_one (ds_ret (d_tup (da_cons (d_var 2) (da_cons (d_ix ix_seq sat_ix (d_var 1) d_int) (da_cons (d_bin op_addD sat_add (d_sl (d_var 5) do_no (do_some (d_var 7))) (d_sl (d_var 5) (do_some (d_bin op_addD sat_add (d_var 7) d_int)) do_no)) da_nil)))))) ds_nil) (ds_cons (ds_if (t_cmp (op_eqD hr.units) sat_eq (d_var 6) d_int) (ds_one (ds_ret (d_tup (da_cons (d_var 2) (da_cons (d_ix ix_seq sat_ix (d_var 1) d_int) (da_cons (d_call c_law_with pass0 (hr.mono (by decide)) (da_cons (d_var 5) (da_cons (d_var 7) (da_cons (d_bin op_addD sat_add (d_sl (d_ix ix_seq sat_ix (d_var 5) (d_var 7)) do_no (do_some d_int)) (d_tup (da_cons (d_call c_law_next pass0 (hr.mono (by decide)) (da_cons (d_var 0) (da_cons (d_callB call_lenA sat_len z_len (da_cons (d_ix ix_seq sat_ix (d_var 2) d_int) da_nil)) da_nil))) da_nil))) da_nil)))) da_nil)))))) ds_nil) (ds_cons (ds_if (t_cmp (op_eqD hr.units) sat_eq (d_var 6) d_int) (ds_cons (ds_set 8 sc_law_otherwise.nd (d_lc rfl sc_law_otherwise.nd (own := [("_law_tile", 12)]) (di_seq (d_var 5)) (blkI (N := N_law_otherwise) (sc := defScope s_law_otherwise) (by decide +kernel)) (fun _ _ _ _ _ => (dg_name 12 sc_law_otherwise.nd)) (fun _ _ _ _ _ => dts_nil) (fun _ _ _ _ _ => (d_sl (d_var 12) do_no (do_some d_int))))) (ds_cons (ds_set 9 sc_law_otherwise.nd (d_lst da_nil)) (ds_cons (ds_for PassesOwn.never rfl (di_range1 z_range (da_cons (d_var 3) da_nil)) (dg_name 10 sc_law_otherwise.nd) (ds_one (ds_expr (d_meth PySem.F.plainAttrs_list PySem.F.slot_list_extend PySem.F.type_list_extend mt_extend sat_extend (d_var 9) (da_cons (d_lc rfl sc_law_otherwise.nd (own := [("_law_y", 13)]) (di_range1 z_range (da_cons (d_var 4) da_nil)) (blkI (N := N_law_otherwise) (sc := defScope s_law_otherwise) (by decide +kernel)) (fun _ _ _ _ _ => (dg_name 13 sc_law_otherwise.nd)) (fun _ _ _ _ _ => (dts_one (t_cmp (op_notInA hr.u65) sat_notIn (d_tup (da_cons (d_var 10) (da_cons (d_var 13) da_nil))) (d_var 8)))) (fun _ _ _ _ _ => (d_tup (da_cons (d_var 10) (da_cons (d_var 13) da_nil))))) da_nil))))) (ds_cons (ds_set 11 sc_law_otherwise.nd (d_ifExp (t_neNilT hr.units (d_var 9)) (d_lst (da_cons (d_bin op_addD sat_add (d_ix ix_seq sat_ix (d_var 9) (d_call c_law_next pass0 (hr.mono (by decide)) (da_cons (d_var 0) (da_cons (d_callB call_lenA sat_len z_len (da_cons (d_var 9) da_nil)) da_nil)))) (d_tup (da_cons d_int da_nil))) da_nil)) (d_lst da_nil))) (ds_one (ds_ret (d_tup (da_cons (d_var 2) (da_cons (d_ix ix_seq sat_ix (d_var 1) d_int) (da_cons (d_callTy call_tuple_of sat_tup z_tuple (da_cons (d_callB (cr_sortD hr.units) sat_sorted z_sorted (da_cons (d_bin op_addD sat_add (d_callTy call_list_of sat_lst z_list (da_cons (d_var 5) da_nil)) (d_var 11)) da_nil)) da_nil)) da_nil)))))))))) ds_nil) (ds_one (ds_ret (d_tup (da_cons (d_var 2) (da_cons (d_ix ix_seq sat_ix (d_lst (da_cons (d_tup (da_cons (d_callB (call_min2 rfl) sat_min2 z_min (da_cons d_int (da_cons (d_bin op_addD sat_add (d_var 3) d_int) da_nil))) (da_cons (d_var 4) da_nil))) (da_cons (d_tup (da_cons (d_var 3) (da_cons (d_callB (call_min2 rfl) sat_min2 z_min (da_cons d_int (da_cons (d_bin op_addD sat_add (d_var 4) d_int) da_nil))) da_nil))) da_nil))) (d_call c_law_next pass0 (hr.mono (by decide)) (da_cons (d_var 0) (da_cons d_int da_nil)))) (da_cons (d_var 5) da_nil)))))))))))))
theorem d_law_otherwise (A : DefAt K mg "_law_otherwise" "_law_otherwise" s_law_otherwise ["_law_state", "_law_bed"]) (c_law_next : DefOk P w K mg base CX0 1 "_law_next" 2 F_law_next) (c_law_house_otherwise : DefOk P w K mg base CX0 2 "_law_house_otherwise" 2 F_law_house_otherwise) (c_law_with : DefOk P w K mg base CX0 1 "_law_with" 3 F_law_with) (z_len : mg "len" = none) (z_list : mg "list" = none) (z_min : mg "min" = none) (z_range : mg "range" = none) (z_sorted : mg "sorted" = none) (z_tuple : mg "tuple" = none) : DefOk P w K mg base CX0 3 "_law_otherwise" 2 F_law_otherwise :=
  A.ok0 sc_law_otherwise rfl rfl (b_law_otherwise c_law_next c_law_house_otherwise c_law_with z_len z_list z_min z_range z_sorted z_tuple)
theorem b_law (c_law_start : DefOk P w K mg base CX0 1 "_law_start" 1 F_law_start) (c_law_next : DefOk P w K mg base CX0 1 "_law_next" 2 F_law_next) (c_law_framed : DefOk P w K mg base CX0 3 "_law_framed" 3 F_law_framed) (c_law_otherwise : DefOk P w K mg base CX0 3 "_law_otherwise" 2 F_law_otherwise) (c_is_framed : DefOk P w K mg base CX0 2 "is_framed" 1 F_is_framed) (c_law_look : DefOk P w K mg base CX0 1 "_law_look" 1 F_law_look) (z_bool : mg "bool" = none) (z_int : mg "int" = none) (z_isinstance : mg "isinstance" = none) (z_range : mg "range" = none) : ∀ (f : Addr) (cdv : Value) (A : Around) (outer : List PySem.Env) (s : Shared) (H : Hp) (E : XK), Room 3 (A.deeper (envOfC "law" (defScope s_law) s.heap.objs.size f cdv)) →
    PSs (cxOf CX0 P w K mg base N_law "law" (defScope s_law) f cdv A outer s H E).nox (defBody s_law) (tS ⟨K, mg, E0⟩ m_law) :=
  fun _ _ _ _ _ _ _ hr => (ds_cons (ds_set 1 sc_law.nd (d_call c_law_start pass0 (hr.mono (by decide)) (da_cons (d_var 0) da_nil))) (ds_cons (ds_for PassesOwn.never rfl (di_range1 z_range (da_cons d_int da_nil)) (dg_name 2 sc_law.nd) (ds_cons (ds_set 3 sc_law.nd (d_call c_law_framed pass0 (hr.mono (by decide)) (da_cons (d_var 1) (da_cons (d_ix ix_seq sat_ix (d_lst (da_cons d_int (da_cons d_int da_nil))) (d_callTy call_int1 sat_int z_int (da_cons (d_cmp (op_eqD hr.units) sat_eq (d_call c_law_next pass0 (hr.mono (by decide)) (da_cons (d_var 1) (da_cons d_int da_nil))) d_int) da_nil))) (da_cons d_int da_nil))))) (ds_cons (ds_for PassesOwn.never rfl (di_range1 z_range (da_cons d_int da_nil)) (dg_name 4 sc_law.nd) (ds_cons (ds_set 5 sc_law.nd (d_call c_law_otherwise pass0 (hr.mono (by decide)) (da_cons (d_var 1) (da_cons (d_var 3) da_nil)))) (ds_cons (ds_if (t_cmp (op_eqD hr.units) sat_eq (d_call c_law_next pass0 (hr.mono (by decide)) (da_cons (d_var 1) (da_cons d_int da_nil))) d_int) (ds_one (ds_set 5 sc_law.nd (d_ifExp (t_cmp (op_neD hr.units) sat_ne (d_ix ix_seq sat_ix (d_var 5) d_int) (d_tup da_nil)) (d_call c_law_otherwise pass0 (hr.mono (by decide)) (da_cons (d_var 1) (da_cons (d_var 5) da_nil))) (d_var 5)))) ds_nil) (ds_cons (ds_set 6 sc_law.nd (d_call c_is_framed pass0 (hr.mono (by decide)) (da_cons (d_var 5) da_nil))) (ds_one (ds_if (PW.pt (w_or (t_cmp op_notBl sat_notB (d_call c_is_framed pass0 (hr.mono (by decide)) (da_cons (d_var 3) da_nil)) d_bl) (w_or (t_not (t_tru (d_callB call_isi sat_isi z_isinstance (da_cons (d_var 6) (da_cons (d_ty z_bool) da_nil))))) (w_or1 (t_cmp (op_neD hr.units) sat_ne (d_var 6) (d_call c_law_look pass0 (hr.mono (by decide)) (da_cons (d_var 5) da_nil))))))) (ds_one (ds_ret d_bl)) ds_nil)))))) (ds_one (ds_if (t_cmp op_notBl sat_notB (d_call c_is_framed pass0 (hr.mono (by decide)) (da_cons (d_tup (da_cons (d_ix ix_seq sat_ix (d_var 3) d_int) (da_cons (d_ix ix_seq sat_ix (d_var 3) d_int) (da_cons (d_tup da_nil) da_nil)))) da_nil)) d_bl) (ds_one (ds_ret d_bl)) ds_nil))))) (ds_one (ds_ret d_bl))))
end
end G

namespace G
open PySem PySem.Spec PyProof.Rows L2 DL
/-- the state that numbers are drawn from: the great cells' rests, the mixed number -/
structure StA (s o : Nat) (ns : List Int) (z : Int) (M : Mem) : Prop where
  st : M[s]? = some (.lst [.ref o, .int z])
  ow : M[o]? = some (.lst (ns.map .int))
  ne : s ≠ o
  le : ns.length ≤ 63
  nn : ∀ n ∈ ns, 0 ≤ n
def St (s o : Nat) (M : Mem) : Prop := ∃ ns z, StA s o ns z M
theorem head_ne {ns : List Int} (h : ns.isEmpty = false) : ∃ x r, ns = x :: r := by
  cases ns with
  | nil => cases h
  | cons x r => exact ⟨x, r, rfl⟩
theorem StA.setO {s o : Nat} {ns ns' : List Int} {z : Int} {M : Mem} (h : StA s o ns z M) (hl : ns'.length ≤ 63) (hn : ∀ n ∈ ns', 0 ≤ n) : StA s o ns' z (M.set o (.lst (ns'.map .int))) :=
  ⟨get_ne h.ne h.st, get_set h.ow, h.ne, hl, hn⟩
theorem StA.setS {s o : Nat} {ns : List Int} {z z' : Int} {M : Mem} (h : StA s o ns z M) : StA s o ns z' (M.set s (.lst [.ref o, .int z'])) :=
  ⟨get_set h.st, get_ne h.ne.symm h.ow, h.ne, h.le, h.nn⟩
theorem StA.go {s o : Nat} {ns : List Int} {z : Int} {M M' : Mem} {X : List Nat} (h : StA s o ns z M) (g : Go X M M') (h1 : s ∉ X) (h2 : o ∉ X) : StA s o ns z M' := ⟨g.get h.st h1, g.get h.ow h2, h.ne, h.le, h.nn⟩
theorem St.go {s o : Nat} {M M' : Mem} {X : List Nat} (h : St s o M) (g : Go X M M') (h1 : s ∉ X) (h2 : o ∉ X) : St s o M' := by
  obtain ⟨ns, z, h⟩ := h
  exact ⟨ns, z, h.go g h1 h2⟩
theorem St.app {s o : Nat} {M N : Mem} (h : St s o M) : St s o (M ++ N) := h.go (X := []) Go.app (by simp) (by simp)
theorem next_spec {s o : Nat} {n : Int} {M : Mem} (h : St s o M) (hn : 0 < n) (hn2 : n < 1000000) : wF F_law_next [.ref s, .int n] M fun d M' => ∃ r : Int, d = .int r ∧ 0 ≤ r ∧ r < n ∧ St s o M' ∧ Go [s, o] M M' := by
  refine wF_fn rfl ?_
  unfold m_law_next sWhile
  obtain ⟨ns0, z0, h0⟩ := h
  refine wS_cut (R := fun r ρ M1 => r = .nx ∧ ρ = [some (.ref s), some (.int n), none] ∧ ∃ ns z, StA s o ns z M1 ∧ Go [s, o] M M1) ?_ ?_
  · refine wp_while (fun m ρ M1 => ρ = [some (.ref s), some (.int n), none] ∧ ∃ ns z, StA s o ns z M1 ∧ ns.length = m ∧ Go [s, o] M M1) ?_ 1000 ns0.length _ _ (by have := h0.le; omega) ⟨rfl, ns0, z0, h0, rfl, Go.refl⟩
    rintro m ρ M1 ⟨rfl, ns, z, h1, hm, g1⟩
    have e1 := ix_ref h1.st (i := 0) atI_0
    have e2 := cNil_lst (neg := true) h1.ow (ints_pln ns)
    cases ns with
    | nil =>
      try (simp (config := { maxSteps := 1000000 }) only [wS_seq, wS_nx, wS_expr, wS_ret, wS_retN, wS_asg, wS_par2, wS_par3, wS_sub, wS_if, wS_for, wS_brk, wS_cont, wS_pass, after_nx, after_rt, after_bk, after_ct, wE_bind, wE_pure, wE_mem, wE_var, wE_call, wE_bin, wE_un, wE_nil, wE_cons, wE_tup, wE_lst, wE_cb, wE_lenSet, wE_meth, wE_tOfE, wE_tTru, wE_tAnd, wE_tOr, wE_tNot, wE_tYes, wE_if, wE_and, wE_or, wE_not, wE_oNo, wE_oSome, wE_sl, wE_iOf, wE_iSeq, gN_f, gT_f, gsNil_f, gsCons_f, wM_some, wM_newL, wM_if, List.getElem?_cons_zero, List.getElem?_cons_succ, List.set_cons_zero, List.set_cons_succ, List.map_cons, List.map_nil, List.cons_append, List.nil_append, Nat.reduceSub, List.replicate_succ, List.replicate_zero, List.length_cons, List.length_nil, Nat.reduceAdd, Option.some.injEq, exists_eq_left', exists_eq_left, D.bl.injEq, D.int.injEq, List.cons.injEq, and_true, true_and, exists_and_left, reduceCtorEq, false_and, and_false, exists_false, exists_const, if_true, if_false, Bool.false_eq_true, wipeE, ite_true, ite_false, exists_and_right, DL.eq_int, DL.ne_int, DL.add_int, DL.sub_int', DL.cmp_int, wM_mul, wM_fdiv, wM_mod, wM_pow, wM_shl, wM_shr, tyD_str, truD_bl, ex1, ex2, exists_eq', exists_eq, Option.bind_some, e1, e2, List.isEmpty_nil, Bool.not_true])
      exact ⟨⟨[], z, h1⟩, g1⟩
    | cons x r =>
      have e3 := ix_ref h1.ow (i := 0) atI_0
      have e4 := popAt_ref h1.ow (i := 0) (j := 0) rfl rfl (size_le (by have := h1.le; simp at this ⊢; omega))
      have hl := h1.le
      have hn' := h1.nn
      rw [List.length_cons] at hl
      try (simp (config := { maxSteps := 1000000 }) only [wS_seq, wS_nx, wS_expr, wS_ret, wS_retN, wS_asg, wS_par2, wS_par3, wS_sub, wS_if, wS_for, wS_brk, wS_cont, wS_pass, after_nx, after_rt, after_bk, after_ct, wE_bind, wE_pure, wE_mem, wE_var, wE_call, wE_bin, wE_un, wE_nil, wE_cons, wE_tup, wE_lst, wE_cb, wE_lenSet, wE_meth, wE_tOfE, wE_tTru, wE_tAnd, wE_tOr, wE_tNot, wE_tYes, wE_if, wE_and, wE_or, wE_not, wE_oNo, wE_oSome, wE_sl, wE_iOf, wE_iSeq, gN_f, gT_f, gsNil_f, gsCons_f, wM_some, wM_newL, wM_if, List.getElem?_cons_zero, List.getElem?_cons_succ, List.set_cons_zero, List.set_cons_succ, List.map_cons, List.map_nil, List.cons_append, List.nil_append, Nat.reduceSub, List.replicate_succ, List.replicate_zero, List.length_cons, List.length_nil, Nat.reduceAdd, Option.some.injEq, exists_eq_left', exists_eq_left, D.bl.injEq, D.int.injEq, List.cons.injEq, and_true, true_and, exists_and_left, reduceCtorEq, false_and, and_false, exists_false, exists_const, if_true, if_false, Bool.false_eq_true, wipeE, ite_true, ite_false, exists_and_right, DL.eq_int, DL.ne_int, DL.add_int, DL.sub_int', DL.cmp_int, wM_mul, wM_fdiv, wM_mod, wM_pow, wM_shl, wM_shr, tyD_str, truD_bl, ex1, ex2, exists_eq', exists_eq, Option.bind_some, e1, e2, e3, List.isEmpty_cons, Bool.not_false, ty_lst h1.ow, e4])
      by_cases hx : x = 0
      · try (simp (config := { maxSteps := 1000000 }) only [wS_seq, wS_nx, wS_expr, wS_ret, wS_retN, wS_asg, wS_par2, wS_par3, wS_sub, wS_if, wS_for, wS_brk, wS_cont, wS_pass, after_nx, after_rt, after_bk, after_ct, wE_bind, wE_pure, wE_mem, wE_var, wE_call, wE_bin, wE_un, wE_nil, wE_cons, wE_tup, wE_lst, wE_cb, wE_lenSet, wE_meth, wE_tOfE, wE_tTru, wE_tAnd, wE_tOr, wE_tNot, wE_tYes, wE_if, wE_and, wE_or, wE_not, wE_oNo, wE_oSome, wE_sl, wE_iOf, wE_iSeq, gN_f, gT_f, gsNil_f, gsCons_f, wM_some, wM_newL, wM_if, List.getElem?_cons_zero, List.getElem?_cons_succ, List.set_cons_zero, List.set_cons_succ, List.map_cons, List.map_nil, List.cons_append, List.nil_append, Nat.reduceSub, List.replicate_succ, List.replicate_zero, List.length_cons, List.length_nil, Nat.reduceAdd, Option.some.injEq, exists_eq_left', exists_eq_left, D.bl.injEq, D.int.injEq, List.cons.injEq, and_true, true_and, exists_and_left, reduceCtorEq, false_and, and_false, exists_false, exists_const, if_true, if_false, Bool.false_eq_true, wipeE, ite_true, ite_false, exists_and_right, DL.eq_int, DL.ne_int, DL.add_int, DL.sub_int', DL.cmp_int, wM_mul, wM_fdiv, wM_mod, wM_pow, wM_shl, wM_shr, tyD_str, truD_bl, ex1, ex2, exists_eq', exists_eq, Option.bind_some, hx, decide_true])
        refine ⟨by rw [← hm]; simp, r.length, by rw [← hm]; simp, r, ⟨z, ?_⟩, rfl, ?_⟩
        · have := h1.setO (ns' := r) (by omega) fun n hn => hn' n (List.mem_cons_of_mem _ hn)
          simpa using this
        · exact g1.trans (Go.set (by simp))
      · try (simp (config := { maxSteps := 1000000 }) only [wS_seq, wS_nx, wS_expr, wS_ret, wS_retN, wS_asg, wS_par2, wS_par3, wS_sub, wS_if, wS_for, wS_brk, wS_cont, wS_pass, after_nx, after_rt, after_bk, after_ct, wE_bind, wE_pure, wE_mem, wE_var, wE_call, wE_bin, wE_un, wE_nil, wE_cons, wE_tup, wE_lst, wE_cb, wE_lenSet, wE_meth, wE_tOfE, wE_tTru, wE_tAnd, wE_tOr, wE_tNot, wE_tYes, wE_if, wE_and, wE_or, wE_not, wE_oNo, wE_oSome, wE_sl, wE_iOf, wE_iSeq, gN_f, gT_f, gsNil_f, gsCons_f, wM_some, wM_newL, wM_if, List.getElem?_cons_zero, List.getElem?_cons_succ, List.set_cons_zero, List.set_cons_succ, List.map_cons, List.map_nil, List.cons_append, List.nil_append, Nat.reduceSub, List.replicate_succ, List.replicate_zero, List.length_cons, List.length_nil, Nat.reduceAdd, Option.some.injEq, exists_eq_left', exists_eq_left, D.bl.injEq, D.int.injEq, List.cons.injEq, and_true, true_and, exists_and_left, reduceCtorEq, false_and, and_false, exists_false, exists_const, if_true, if_false, Bool.false_eq_true, wipeE, ite_true, ite_false, exists_and_right, DL.eq_int, DL.ne_int, DL.add_int, DL.sub_int', DL.cmp_int, wM_mul, wM_fdiv, wM_mod, wM_pow, wM_shl, wM_shr, tyD_str, truD_bl, ex1, ex2, exists_eq', exists_eq, Option.bind_some, hx, decide_false])
        exact ⟨⟨_, z, h1⟩, g1⟩
  · rintro r ρ M1 ⟨rfl, rfl, ns, z, h1, g1⟩
    have e1 := ix_ref h1.st (i := 0) atI_0
    have e2 := cNil_lst (neg := true) h1.ow (ints_pln ns)
    have e5 := ix_ref h1.st (i := 1) atI_1
    cases ns with
    | cons x r =>
      have e3 := ix_ref h1.ow (i := 0) atI_0
      have e4 := fun v => setL_ref (v := v) h1.ow (i := 0) (j := 0) (by simp) rfl
      have hl := h1.le
      have hn' := h1.nn
      rw [List.length_cons] at hl
      have hx := hn' x List.mem_cons_self
      try (simp (config := { maxSteps := 1000000 }) only [wS_seq, wS_nx, wS_expr, wS_ret, wS_retN, wS_asg, wS_par2, wS_par3, wS_sub, wS_if, wS_for, wS_brk, wS_cont, wS_pass, after_nx, after_rt, after_bk, after_ct, wE_bind, wE_pure, wE_mem, wE_var, wE_call, wE_bin, wE_un, wE_nil, wE_cons, wE_tup, wE_lst, wE_cb, wE_lenSet, wE_meth, wE_tOfE, wE_tTru, wE_tAnd, wE_tOr, wE_tNot, wE_tYes, wE_if, wE_and, wE_or, wE_not, wE_oNo, wE_oSome, wE_sl, wE_iOf, wE_iSeq, gN_f, gT_f, gsNil_f, gsCons_f, wM_some, wM_newL, wM_if, List.getElem?_cons_zero, List.getElem?_cons_succ, List.set_cons_zero, List.set_cons_succ, List.map_cons, List.map_nil, List.cons_append, List.nil_append, Nat.reduceSub, List.replicate_succ, List.replicate_zero, List.length_cons, List.length_nil, Nat.reduceAdd, Option.some.injEq, exists_eq_left', exists_eq_left, D.bl.injEq, D.int.injEq, List.cons.injEq, and_true, true_and, exists_and_left, reduceCtorEq, false_and, and_false, exists_false, exists_const, if_true, if_false, Bool.false_eq_true, wipeE, ite_true, ite_false, exists_and_right, DL.eq_int, DL.ne_int, DL.add_int, DL.sub_int', DL.cmp_int, wM_mul, wM_fdiv, wM_mod, wM_pow, wM_shl, wM_shr, tyD_str, truD_bl, ex1, ex2, exists_eq', exists_eq, Option.bind_some, e1, e2, e3, e4, List.isEmpty_cons, Bool.not_false])
      refine ⟨hn, cdiv_lt hn (by omega), Int.emod_nonneg _ (by omega), Int.emod_lt_of_pos _ hn, ⟨x / n :: r, z, ?_⟩, g1.trans (Go.set (by simp))⟩
      have := h1.setO (ns' := x / n :: r) (by simp; omega) fun y hy => by
        rcases List.mem_cons.mp hy with rfl | hy
        · exact Int.ediv_nonneg hx (by omega)
        · exact hn' y (List.mem_cons_of_mem _ hy)
      simpa using this
    | nil =>
      have e4 := fun v => setL_ref (v := v) h1.st (i := 1) (j := 1) (by simp) rfl
      have e6 := fun v => ix_ref (get_set (o := .lst [.ref o, .int v]) h1.st) (i := 1) atI_1
      try (simp (config := { maxSteps := 1000000 }) only [wS_seq, wS_nx, wS_expr, wS_ret, wS_retN, wS_asg, wS_par2, wS_par3, wS_sub, wS_if, wS_for, wS_brk, wS_cont, wS_pass, after_nx, after_rt, after_bk, after_ct, wE_bind, wE_pure, wE_mem, wE_var, wE_call, wE_bin, wE_un, wE_nil, wE_cons, wE_tup, wE_lst, wE_cb, wE_lenSet, wE_meth, wE_tOfE, wE_tTru, wE_tAnd, wE_tOr, wE_tNot, wE_tYes, wE_if, wE_and, wE_or, wE_not, wE_oNo, wE_oSome, wE_sl, wE_iOf, wE_iSeq, gN_f, gT_f, gsNil_f, gsCons_f, wM_some, wM_newL, wM_if, List.getElem?_cons_zero, List.getElem?_cons_succ, List.set_cons_zero, List.set_cons_succ, List.map_cons, List.map_nil, List.cons_append, List.nil_append, Nat.reduceSub, List.replicate_succ, List.replicate_zero, List.length_cons, List.length_nil, Nat.reduceAdd, Option.some.injEq, exists_eq_left', exists_eq_left, D.bl.injEq, D.int.injEq, List.cons.injEq, and_true, true_and, exists_and_left, reduceCtorEq, false_and, and_false, exists_false, exists_const, if_true, if_false, Bool.false_eq_true, wipeE, ite_true, ite_false, exists_and_right, DL.eq_int, DL.ne_int, DL.add_int, DL.sub_int', DL.cmp_int, wM_mul, wM_fdiv, wM_mod, wM_pow, wM_shl, wM_shr, tyD_str, truD_bl, ex1, ex2, exists_eq', exists_eq, Option.bind_some, e1, e2, e4, e5, e6, List.isEmpty_nil, Bool.not_true])
      have hm := Int.emod_nonneg ((z * 6364136223846793005 + 1442695040888963407) % 2305843009213693951) (show (1000003 : Int) ≠ 0 by decide)
      have hm2 := Int.emod_lt_of_pos ((z * 6364136223846793005 + 1442695040888963407) % 2305843009213693951) (show (0 : Int) < 1000003 by decide)
      refine ⟨cmul_r (by decide), by decide, by decide, cmul_r (by omega), by decide, cdiv_lt (by decide) (by decide), hn, Int.emod_nonneg _ (by omega), Int.emod_lt_of_pos _ hn, ⟨[], _, h1.setS⟩, g1.trans (Go.set (by simp))⟩
end G

namespace G
open PySem PySem.Spec PyProof.Rows L2 DL
theorem fls63 {ns : List Int} {M : Mem} (h : ns.length ≤ 63) : opSl (.fls (ns.map .int)) none (some 63) M = some (.ref M.length, M ++ [.lst (ns.map .int)]) := by
  have e : DL.cutD (ns.map D.int) none (some 63) = ns.map D.int := by
    unfold DL.cutD
    rw [show HT.sIx (ns.map D.int).length (ns.map D.int).length (some 63) = (ns.map D.int).length by
      rw [show (63 : Int) = ((63 : Nat) : Int) from rfl, HT.sIx_nat, List.length_map]; omega]
    show (ns.map D.int).take (ns.map D.int).length = _
    exact List.take_length
  show newL (DL.cutD (ns.map D.int) none (some 63)) M = _
  rw [e]
  unfold newL
  rw [if_pos (by rw [List.length_map]; exact size_le (by omega))]
theorem abs_int {i : Int} {M : Mem} : cAbs [.int i] M = some (.int (i.natAbs : Nat), M) := by
  show some (D.int (if i < 0 then -i else i), M) = _
  congr 3
  split <;> omega
theorem start_spec {ns : List Int} (h : ns.length ≤ 63) : wF F_law_start [.fls (ns.map .int)] [] fun d M' => ∃ s o : Nat, d = .ref s ∧ St s o M' := by
  refine wF_fn rfl ?_
  unfold m_law_start
  have e0 : ∀ (l : Nat) (M : Mem), M[l]? = some (.lst (ns.map .int)) → enumG [.ref l] M = some (pairs (ns.map .int), lstIs l (ns.map .int)) := fun l M h => by
    unfold enumG
    dsimp only
    rw [itSeq_ref h]
  try (simp (config := { maxSteps := 1000000 }) only [wS_seq, wS_nx, wS_expr, wS_ret, wS_retN, wS_asg, wS_par2, wS_par3, wS_sub, wS_if, wS_for, wS_brk, wS_cont, wS_pass, after_nx, after_rt, after_bk, after_ct, wE_bind, wE_pure, wE_mem, wE_var, wE_call, wE_bin, wE_un, wE_nil, wE_cons, wE_tup, wE_lst, wE_cb, wE_lenSet, wE_meth, wE_tOfE, wE_tTru, wE_tAnd, wE_tOr, wE_tNot, wE_tYes, wE_if, wE_and, wE_or, wE_not, wE_oNo, wE_oSome, wE_sl, wE_iOf, wE_iSeq, gN_f, gT_f, gsNil_f, gsCons_f, wM_some, wM_newL, wM_if, List.getElem?_cons_zero, List.getElem?_cons_succ, List.set_cons_zero, List.set_cons_succ, List.map_cons, List.map_nil, List.cons_append, List.nil_append, Nat.reduceSub, List.replicate_succ, List.replicate_zero, List.length_cons, List.length_nil, Nat.reduceAdd, Option.some.injEq, exists_eq_left', exists_eq_left, D.bl.injEq, D.int.injEq, List.cons.injEq, and_true, true_and, exists_and_left, reduceCtorEq, false_and, and_false, exists_false, exists_const, if_true, if_false, Bool.false_eq_true, wipeE, ite_true, ite_false, exists_and_right, DL.eq_int, DL.ne_int, DL.add_int, DL.sub_int', DL.cmp_int, wM_mul, wM_fdiv, wM_mod, wM_pow, wM_shl, wM_shr, tyD_str, truD_bl, ex1, ex2, exists_eq', exists_eq, Option.bind_some, fls63 h, e0 _ _ get_new])
  refine wp_for0 (fun j ρ M1 => M1 = [.lst (ns.map .int)] ∧ ∃ z a b, ρ = [some (.fls (ns.map .int)), some (.int z), a, b]) ⟨rfl, 17, _, _, rfl⟩ ?_ ?_
  · rintro j x ρ M1 hj ⟨rfl, z, a, b, rfl⟩
    obtain ⟨d, hd, rfl⟩ := pairs_get hj
    obtain ⟨i, hi, rfl⟩ : ∃ i, i ∈ ns ∧ d = .int i := by
      obtain ⟨i, hi, rfl⟩ := List.mem_map.mp (List.mem_of_getElem? hd)
      exact ⟨i, hi, rfl⟩
    refine ⟨lstIs_of (M := [.lst (ns.map .int)]) (l := 0) rfl, _, rfl, ?_⟩
    try (simp (config := { maxSteps := 1000000 }) only [wS_seq, wS_nx, wS_expr, wS_ret, wS_retN, wS_asg, wS_par2, wS_par3, wS_sub, wS_if, wS_for, wS_brk, wS_cont, wS_pass, after_nx, after_rt, after_bk, after_ct, wE_bind, wE_pure, wE_mem, wE_var, wE_call, wE_bin, wE_un, wE_nil, wE_cons, wE_tup, wE_lst, wE_cb, wE_lenSet, wE_meth, wE_tOfE, wE_tTru, wE_tAnd, wE_tOr, wE_tNot, wE_tYes, wE_if, wE_and, wE_or, wE_not, wE_oNo, wE_oSome, wE_sl, wE_iOf, wE_iSeq, gN_f, gT_f, gsNil_f, gsCons_f, wM_some, wM_newL, wM_if, List.getElem?_cons_zero, List.getElem?_cons_succ, List.set_cons_zero, List.set_cons_succ, List.map_cons, List.map_nil, List.cons_append, List.nil_append, Nat.reduceSub, List.replicate_succ, List.replicate_zero, List.length_cons, List.length_nil, Nat.reduceAdd, Option.some.injEq, exists_eq_left', exists_eq_left, D.bl.injEq, D.int.injEq, List.cons.injEq, and_true, true_and, exists_and_left, reduceCtorEq, false_and, and_false, exists_false, exists_const, if_true, if_false, Bool.false_eq_true, wipeE, ite_true, ite_false, exists_and_right, DL.eq_int, DL.ne_int, DL.add_int, DL.sub_int', DL.cmp_int, wM_mul, wM_fdiv, wM_mod, wM_pow, wM_shl, wM_shr, tyD_str, truD_bl, ex1, ex2, exists_eq', exists_eq, Option.bind_some])
    exact ⟨cmul_r (by decide), by decide, cmul_l (by decide), by decide⟩
  · rintro ρ M1 ⟨rfl, z, a, b, rfl⟩
    refine ⟨lstIs_of (M := [.lst (ns.map .int)]) (l := 0) rfl, ?_⟩
    try (simp (config := { maxSteps := 1000000 }) only [wS_seq, wS_nx, wS_expr, wS_ret, wS_retN, wS_asg, wS_par2, wS_par3, wS_sub, wS_if, wS_for, wS_brk, wS_cont, wS_pass, after_nx, after_rt, after_bk, after_ct, wE_bind, wE_pure, wE_mem, wE_var, wE_call, wE_bin, wE_un, wE_nil, wE_cons, wE_tup, wE_lst, wE_cb, wE_lenSet, wE_meth, wE_tOfE, wE_tTru, wE_tAnd, wE_tOr, wE_tNot, wE_tYes, wE_if, wE_and, wE_or, wE_not, wE_oNo, wE_oSome, wE_sl, wE_iOf, wE_iSeq, gN_f, gT_f, gsNil_f, gsCons_f, wM_some, wM_newL, wM_if, List.getElem?_cons_zero, List.getElem?_cons_succ, List.set_cons_zero, List.set_cons_succ, List.map_cons, List.map_nil, List.cons_append, List.nil_append, Nat.reduceSub, List.replicate_succ, List.replicate_zero, List.length_cons, List.length_nil, Nat.reduceAdd, Option.some.injEq, exists_eq_left', exists_eq_left, D.bl.injEq, D.int.injEq, List.cons.injEq, and_true, true_and, exists_and_left, reduceCtorEq, false_and, and_false, exists_false, exists_const, if_true, if_false, Bool.false_eq_true, wipeE, ite_true, ite_false, exists_and_right, DL.eq_int, DL.ne_int, DL.add_int, DL.sub_int', DL.cmp_int, wM_mul, wM_fdiv, wM_mod, wM_pow, wM_shl, wM_shr, tyD_str, truD_bl, ex1, ex2, exists_eq', exists_eq, Option.bind_some, fls63 h])
    refine lc_pure (fun d => match d with | .int i => decide ((10 : Int) ^ 18 ≤ (i.natAbs : Nat)) | _ => false) (fun d => match d with | .int i => .int (i.natAbs : Nat) | _ => .non) ?_
    have e2 : itSeq (.ref 1) [MO.lst (ns.map D.int), .lst (ns.map D.int)] = _ := itSeq_ref rfl
    try (simp (config := { maxSteps := 1000000 }) only [wS_seq, wS_nx, wS_expr, wS_ret, wS_retN, wS_asg, wS_par2, wS_par3, wS_sub, wS_if, wS_for, wS_brk, wS_cont, wS_pass, after_nx, after_rt, after_bk, after_ct, wE_bind, wE_pure, wE_mem, wE_var, wE_call, wE_bin, wE_un, wE_nil, wE_cons, wE_tup, wE_lst, wE_cb, wE_lenSet, wE_meth, wE_tOfE, wE_tTru, wE_tAnd, wE_tOr, wE_tNot, wE_tYes, wE_if, wE_and, wE_or, wE_not, wE_oNo, wE_oSome, wE_sl, wE_iOf, wE_iSeq, gN_f, gT_f, gsNil_f, gsCons_f, wM_some, wM_newL, wM_if, List.getElem?_cons_zero, List.getElem?_cons_succ, List.set_cons_zero, List.set_cons_succ, List.map_cons, List.map_nil, List.cons_append, List.nil_append, Nat.reduceSub, List.replicate_succ, List.replicate_zero, List.length_cons, List.length_nil, Nat.reduceAdd, Option.some.injEq, exists_eq_left', exists_eq_left, D.bl.injEq, D.int.injEq, List.cons.injEq, and_true, true_and, exists_and_left, reduceCtorEq, false_and, and_false, exists_false, exists_const, if_true, if_false, Bool.false_eq_true, wipeE, ite_true, ite_false, exists_and_right, DL.eq_int, DL.ne_int, DL.add_int, DL.sub_int', DL.cmp_int, wM_mul, wM_fdiv, wM_mod, wM_pow, wM_shl, wM_shr, tyD_str, truD_bl, ex1, ex2, exists_eq', exists_eq, Option.bind_some, fls63 h, e2])
    refine ⟨fun acc => lstIs_of (M := [.lst (ns.map .int), .lst (ns.map .int), .lst acc]) (l := 1) rfl, by rw [List.length_map]; omega, ?_, ?_⟩
    · rintro x hx
      obtain ⟨i, hi, rfl⟩ := List.mem_map.mp hx
      intro acc
      try (simp (config := { maxSteps := 1000000 }) only [wS_seq, wS_nx, wS_expr, wS_ret, wS_retN, wS_asg, wS_par2, wS_par3, wS_sub, wS_if, wS_for, wS_brk, wS_cont, wS_pass, after_nx, after_rt, after_bk, after_ct, wE_bind, wE_pure, wE_mem, wE_var, wE_call, wE_bin, wE_un, wE_nil, wE_cons, wE_tup, wE_lst, wE_cb, wE_lenSet, wE_meth, wE_tOfE, wE_tTru, wE_tAnd, wE_tOr, wE_tNot, wE_tYes, wE_if, wE_and, wE_or, wE_not, wE_oNo, wE_oSome, wE_sl, wE_iOf, wE_iSeq, gN_f, gT_f, gsNil_f, gsCons_f, wM_some, wM_newL, wM_if, List.getElem?_cons_zero, List.getElem?_cons_succ, List.set_cons_zero, List.set_cons_succ, List.map_cons, List.map_nil, List.cons_append, List.nil_append, Nat.reduceSub, List.replicate_succ, List.replicate_zero, List.length_cons, List.length_nil, Nat.reduceAdd, Option.some.injEq, exists_eq_left', exists_eq_left, D.bl.injEq, D.int.injEq, List.cons.injEq, and_true, true_and, exists_and_left, reduceCtorEq, false_and, and_false, exists_false, exists_const, if_true, if_false, Bool.false_eq_true, wipeE, ite_true, ite_false, exists_and_right, DL.eq_int, DL.ne_int, DL.add_int, DL.sub_int', DL.cmp_int, wM_mul, wM_fdiv, wM_mod, wM_pow, wM_shl, wM_shr, tyD_str, truD_bl, ex1, ex2, exists_eq', exists_eq, Option.bind_some, abs_int])
      refine ⟨⟨⟨by decide, by decide⟩, ?_⟩, fun _ => trivial⟩

      rfl
    · refine ⟨size_le (by decide), 3, rfl, 2, (ns.filter fun i => decide ((10 : Int) ^ 18 ≤ (i.natAbs : Nat))).map fun i => ((i.natAbs : Nat) : Int), z, ⟨?_, ?_, ?_, ?_, ?_⟩⟩
      · rfl
      · show some (MO.lst _) = some (MO.lst _)
        congr 2
        rw [List.filter_map, List.map_map, List.map_map]
        rfl
      · simp
      · rw [List.length_map]
        exact Nat.le_trans (List.length_filter_le _ _) h
      · intro n hn
        obtain ⟨i, _, rfl⟩ := List.mem_map.mp hn
        omega
end G

namespace G
open PySem PySem.Spec PyProof.Rows L2 DL
abbrev ABC : Str := "abcdefghijklmnopqrstuvwxyz"
theorem abc_len : ABC.length = 26 := by decide +kernel
theorem abc_at : ∀ j < 26, (cl ABC)[j]? = some (97 + j) := by decide +kernel
theorem ix_abc {i : Int} {M : Mem} (h0 : 0 ≤ i) (h1 : i < 26) : opIx (.str ABC) (.int i) M = some (.str ⟨#[97 + i.toNat]⟩, M) :=
  ix_str (abc_at i.toNat (by omega)) (by omega) (by rw [abc_len]; decide)
structure NameOk (t : Str) : Prop where
  pos : 0 < t.length
  len : t.length ≤ 20
  abc : ∀ c ∈ cl t, 97 ≤ c ∧ c < 123
theorem NameOk.ok {t : Str} (h : NameOk t) : PyData.strOk t = true := strOk_cl.mpr fun c hc => by have := h.abc c hc; omega
theorem NameOk.ne {t : Str} (h : NameOk t) : t ≠ "" := ne_empty h.pos
def pow1 (c k : Nat) : Str := strMul ⟨#[c]⟩ ((k : Int) + 1)
theorem cl_pow1 (c k : Nat) : cl (pow1 c k) = List.replicate (k + 1) c := by
  unfold pow1
  rw [cl_mul, show ((k : Int) + 1).toNat = k + 1 by omega]
  generalize k + 1 = n
  induction n with
  | zero => rfl
  | succ n ih => rw [List.replicate_succ, List.flatten_cons, ih]; rfl
def inner (u : Str) (a : Nat) (c : Nat) : Str := cutS u none (some (a : Int)) ++ ⟨#[c]⟩ ++ cutS u (some (a : Int)) none
theorem cl_inner {u : Str} {a c : Nat} (h : a ≤ u.length) : cl (inner u a c) = (cl u).take a ++ c :: (cl u).drop a := by
  unfold inner
  rw [cl_app, cl_app, cl_take rfl h, cl_drop rfl h]
  simp [cl]
theorem inner_at {u : Str} {a c : Nat} (h : a ≤ u.length) : (cl (inner u a c))[a]? = some c := by
  rw [cl_inner h]
  have : ((cl u).take a).length = a := by rw [List.length_take, cl_len]; omega
  rw [List.getElem?_append_right (by omega), this, Nat.sub_self]
  rfl
theorem St.lt {s o : Nat} {M : Mem} (h : St s o M) : s < M.length ∧ o < M.length := by
  obtain ⟨ns, z, q⟩ := h
  exact ⟨lt_of q.st, lt_of q.ow⟩
theorem St.setN {s o l : Nat} {u : MO} {M0 M : Mem} (h0 : St s o M0) (h : St s o M) (hl : M0.length ≤ l) : St s o (M.set l u) := by
  have := h0.lt
  exact h.go (X := [l]) (Go.set (by simp)) (by simp; omega) (by simp; omega)
structure NamesAt (l n : Nat) (ts : List Str) (M : Mem) : Prop where
  at_ : M[l]? = some (.lst (ts.map .str))
  len : ts.length = n
  nd : ts.Nodup
  ok : ∀ t ∈ ts, NameOk t
  up : ts.Pairwise fun a b => cl a ≤ cl b
theorem sort_names {l n : Nat} {M : Mem} (nm : Nat → Str) (hn : n ≤ 100) (h : M[l]? = some (.lst ((List.range n).map fun k => D.str (nm k)))) (inj : ∀ i < n, ∀ j < n, nm i = nm j → i = j) (ok : ∀ i < n, NameOk (nm i)) : ∃ ts, NamesAt M.length n ts (M ++ [.lst (ts.map .str)]) ∧ cSorted [.ref l] M = some (.ref M.length, M ++ [.lst (ts.map D.str)]) := by
  obtain ⟨ts, h1, h2, h3⟩ := sorted_strs (ss := (List.range n).map nm) (by rw [List.map_map]; exact h) (by rw [List.length_map, List.length_range]; omega)
  refine ⟨ts, ⟨get_new, ?_, ?_, ?_, h2⟩, h3⟩
  · rw [h1.length_eq, List.length_map, List.length_range]
  · rw [h1.nodup_iff, List.Nodup, List.pairwise_map]
    refine List.Pairwise.imp_of_mem (R := (· ≠ ·)) ?_ List.nodup_range
    intro i j hi hj hij e
    exact hij (inj i (List.mem_range.mp hi) j (List.mem_range.mp hj) e)
  · intro t ht
    obtain ⟨i, hi, rfl⟩ := List.mem_map.mp (h1.mem_iff.mp ht)
    exact ok i (List.mem_range.mp hi)
theorem mul_str {x : Str} {n : Int} {M : Mem} (h : CSM x n) : opMul (.str x) (.int n) M = some (.str (strMul x n), M) := if_pos h
def strOf (f : Int → Str) : D → D
  | .int i => .str (f i)
  | _ => .non
theorem strOf_int {f : Int → Str} {i : Int} : strOf f (.int i) = .str (f i) := rfl
theorem mem_upto {n : Nat} {x : D} (h : x ∈ upto 0 n) : ∃ j : Nat, j < n ∧ x = .int (j : Nat) := by
  rw [upto_nat] at h
  obtain ⟨j, hj, rfl⟩ := List.mem_map.mp h
  exact ⟨j, List.mem_range.mp hj, rfl⟩
theorem map_upto {n : Nat} {f : Int → Str} : (upto 0 n).map (strOf f) = (List.range n).map fun k => D.str (f (k : Nat)) := by
  rw [upto_nat, List.map_map]
  rfl
abbrev NamesPost (s o n : Nat) (M : Mem) (d : D) (M' : Mem) : Prop := ∃ l, d = .ref l ∧ M.length ≤ l ∧ (∃ ts, NamesAt l n ts M') ∧ St s o M' ∧ Go [s, o] M M'
theorem names_a {s o : Nat} {n first step size at_ : Int} {u : Str} {M M6 : Mem} (h : St s o M6) (g : Go [s, o] M M6) (h1 : 0 < n) (h2 : n ≤ 13) (f0 : 0 ≤ first) (f1 : first < 26) :
    wE (eLc (iRange1 (aCons (eVar 1) aNil)) (gN 8) tYesD (eBin opMul (eBin opIx (eVar 2) (eVar 3)) (eBin opAdd (eVar 8) (eC (.int 1)))) [8]) [some (.ref s), some (.int n), some (.str ABC), some (.int first), some (.int step), some (.int size), some (.str u), some (.int at_), none] M6 fun x M1 => wM (cSorted [x] M1) (NamesPost s o n.toNat M) := by
  refine lc_all (strOf fun k => pow1 (97 + first.toNat) k.toNat) ?_
  try (simp (config := { maxSteps := 1000000 }) only [wS_seq, wS_nx, wS_expr, wS_ret, wS_retN, wS_asg, wS_par2, wS_par3, wS_sub, wS_if, wS_for, wS_brk, wS_cont, wS_pass, after_nx, after_rt, after_bk, after_ct, wE_bind, wE_pure, wE_mem, wE_var, wE_call, wE_bin, wE_un, wE_nil, wE_cons, wE_tup, wE_lst, wE_cb, wE_lenSet, wE_meth, wE_tOfE, wE_tTru, wE_tAnd, wE_tOr, wE_tNot, wE_tYes, wE_if, wE_and, wE_or, wE_not, wE_oNo, wE_oSome, wE_sl, wE_iOf, wE_iSeq, gN_f, gT_f, gsNil_f, gsCons_f, wM_some, wM_newL, wM_if, List.getElem?_cons_zero, List.getElem?_cons_succ, List.set_cons_zero, List.set_cons_succ, List.map_cons, List.map_nil, List.cons_append, List.nil_append, Nat.reduceSub, List.replicate_succ, List.replicate_zero, List.length_cons, List.length_nil, Nat.reduceAdd, Option.some.injEq, exists_eq_left', exists_eq_left, D.bl.injEq, D.int.injEq, List.cons.injEq, and_true, true_and, exists_and_left, reduceCtorEq, false_and, and_false, exists_false, exists_const, if_true, if_false, Bool.false_eq_true, wipeE, ite_true, ite_false, exists_and_right, DL.eq_int, DL.ne_int, DL.add_int, DL.sub_int', DL.cmp_int, wM_mul, wM_fdiv, wM_mod, wM_pow, wM_shl, wM_shr, tyD_str, truD_bl, ex1, ex2, exists_eq', exists_eq, Option.bind_some, rng1_ok (show -(2 ^ 62) ≤ n ∧ n < 2 ^ 62 by omega)])
  refine ⟨fun _ => trivial, by rw [upto_nat, List.length_map, List.length_range]; omega, ?_, ?_⟩
  · intro x hx
    obtain ⟨j, hj, rfl⟩ := mem_upto hx
    intro acc
    have e1 : ∀ M, opMul (.str ⟨#[97 + first.toNat]⟩) (.int ((j : Nat) + 1)) M = some (.str (pow1 (97 + first.toNat) j), M) := fun M => mul_str ⟨by omega, by omega, by
      show 1 * ((j : Int) + 1).toNat ≤ sizeLine
      exact size_le (by omega)⟩
    try (simp (config := { maxSteps := 1000000 }) only [wS_seq, wS_nx, wS_expr, wS_ret, wS_retN, wS_asg, wS_par2, wS_par3, wS_sub, wS_if, wS_for, wS_brk, wS_cont, wS_pass, after_nx, after_rt, after_bk, after_ct, wE_bind, wE_pure, wE_mem, wE_var, wE_call, wE_bin, wE_un, wE_nil, wE_cons, wE_tup, wE_lst, wE_cb, wE_lenSet, wE_meth, wE_tOfE, wE_tTru, wE_tAnd, wE_tOr, wE_tNot, wE_tYes, wE_if, wE_and, wE_or, wE_not, wE_oNo, wE_oSome, wE_sl, wE_iOf, wE_iSeq, gN_f, gT_f, gsNil_f, gsCons_f, wM_some, wM_newL, wM_if, List.getElem?_cons_zero, List.getElem?_cons_succ, List.set_cons_zero, List.set_cons_succ, List.map_cons, List.map_nil, List.cons_append, List.nil_append, Nat.reduceSub, List.replicate_succ, List.replicate_zero, List.length_cons, List.length_nil, Nat.reduceAdd, Option.some.injEq, exists_eq_left', exists_eq_left, D.bl.injEq, D.int.injEq, List.cons.injEq, and_true, true_and, exists_and_left, reduceCtorEq, false_and, and_false, exists_false, exists_const, if_true, if_false, Bool.false_eq_true, wipeE, ite_true, ite_false, exists_and_right, DL.eq_int, DL.ne_int, DL.add_int, DL.sub_int', DL.cmp_int, wM_mul, wM_fdiv, wM_mod, wM_pow, wM_shl, wM_shr, tyD_str, truD_bl, ex1, ex2, exists_eq', exists_eq, Option.bind_some, ix_abc f0 f1, e1, strOf_int, Int.toNat_natCast])
  · rw [map_upto]
    obtain ⟨ts, h3, h4⟩ := sort_names (l := M6.length) (n := n.toNat) (M := M6 ++ [.lst ((List.range n.toNat).map fun (k : Nat) => D.str (pow1 (97 + first.toNat) ((k : Int)).toNat))]) (fun (k : Nat) => pow1 (97 + first.toNat) ((k : Int)).toNat) (by omega) get_new (fun i hi j hj e => by
      have := congrArg (fun x => (cl x).length) e
      simp only [cl_pow1, List.length_replicate] at this
      omega) (fun i hi => by
      refine ⟨?_, ?_, ?_⟩
      · rw [← cl_len, cl_pow1, List.length_replicate]; omega
      · rw [← cl_len, cl_pow1, List.length_replicate]; omega
      · intro c hc
        rw [cl_pow1] at hc
        have := (List.mem_replicate.mp hc).2
        omega)
    rw [h4, wM_some]
    exact ⟨_, rfl, by have := g.le; simp; omega, ⟨ts, h3⟩, h.app.app, g.appN.appN⟩
theorem names_b {s o : Nat} {n first step size at_ : Int} {u : Str} {M M6 : Mem} (h : St s o M6) (g : Go [s, o] M M6) (h1 : 0 < n) (h2 : n ≤ 13) (f0 : 0 ≤ first) (f1 : first < 26) (hst : step ∈ [1, 3, 5, 7, 9, 11]) (a0 : 0 ≤ at_) (a1 : at_ ≤ u.length) (hu : u.length ≤ 8) (hua : ∀ c ∈ cl u, 97 ≤ c ∧ c < 123) :
    wE (eLc (iRange1 (aCons (eVar 1) aNil)) (gN 8) tYesD (eBin opAdd (eBin opAdd (eSl (eVar 6) oNo (oSome (eVar 7))) (eBin opIx (eVar 2) (eBin opMod (eBin opAdd (eVar 3) (eBin opMul (eVar 4) (eVar 8))) (eC (.int 26))))) (eSl (eVar 6) (oSome (eVar 7)) oNo)) [8]) [some (.ref s), some (.int n), some (.str ABC), some (.int first), some (.int step), some (.int size), some (.str u), some (.int at_), none] M6 fun x M1 => wM (cSorted [x] M1) (NamesPost s o n.toNat M) := by
  refine lc_all (strOf fun k => inner u at_.toNat (97 + ((first + step * k) % 26).toNat)) ?_
  try (simp (config := { maxSteps := 1000000 }) only [wS_seq, wS_nx, wS_expr, wS_ret, wS_retN, wS_asg, wS_par2, wS_par3, wS_sub, wS_if, wS_for, wS_brk, wS_cont, wS_pass, after_nx, after_rt, after_bk, after_ct, wE_bind, wE_pure, wE_mem, wE_var, wE_call, wE_bin, wE_un, wE_nil, wE_cons, wE_tup, wE_lst, wE_cb, wE_lenSet, wE_meth, wE_tOfE, wE_tTru, wE_tAnd, wE_tOr, wE_tNot, wE_tYes, wE_if, wE_and, wE_or, wE_not, wE_oNo, wE_oSome, wE_sl, wE_iOf, wE_iSeq, gN_f, gT_f, gsNil_f, gsCons_f, wM_some, wM_newL, wM_if, List.getElem?_cons_zero, List.getElem?_cons_succ, List.set_cons_zero, List.set_cons_succ, List.map_cons, List.map_nil, List.cons_append, List.nil_append, Nat.reduceSub, List.replicate_succ, List.replicate_zero, List.length_cons, List.length_nil, Nat.reduceAdd, Option.some.injEq, exists_eq_left', exists_eq_left, D.bl.injEq, D.int.injEq, List.cons.injEq, and_true, true_and, exists_and_left, reduceCtorEq, false_and, and_false, exists_false, exists_const, if_true, if_false, Bool.false_eq_true, wipeE, ite_true, ite_false, exists_and_right, DL.eq_int, DL.ne_int, DL.add_int, DL.sub_int', DL.cmp_int, wM_mul, wM_fdiv, wM_mod, wM_pow, wM_shl, wM_shr, tyD_str, truD_bl, ex1, ex2, exists_eq', exists_eq, Option.bind_some, rng1_ok (show -(2 ^ 62) ≤ n ∧ n < 2 ^ 62 by omega)])
  refine ⟨fun _ => trivial, by rw [upto_nat, List.length_map, List.length_range]; omega, ?_, ?_⟩
  · intro x hx
    obtain ⟨j, hj, rfl⟩ := mem_upto hx
    intro acc
    have m0 := Int.emod_nonneg (first + step * (j : Nat)) (show (26 : Int) ≠ 0 by decide)
    have m1 := Int.emod_lt_of_pos (first + step * (j : Nat)) (show (0 : Int) < 26 by decide)
    have e0 : ((at_.toNat : Nat) : Int) = at_ := Int.toNat_of_nonneg a0
    have L1 := len_cut u none (some at_)
    have L2 := len_cut u (some at_) none
    have L3 : ∀ c : Nat, (⟨#[c]⟩ : Str).length = 1 := fun _ => rfl
    have e1 : ∀ M, opAdd (.str (cutS u none (some at_))) (.str ⟨#[97 + ((first + step * (j : Nat)) % 26).toNat]⟩) M = some (.str (cutS u none (some at_) ++ ⟨#[97 + ((first + step * (j : Nat)) % 26).toNat]⟩), M) := fun M => add_str' (by rw [L3]; omega)
    have e2 : ∀ M, opAdd (.str (cutS u none (some at_) ++ ⟨#[97 + ((first + step * (j : Nat)) % 26).toNat]⟩)) (.str (cutS u (some at_) none)) M = some (.str (inner u at_.toNat (97 + ((first + step * (j : Nat)) % 26).toNat)), M) := fun M => by
      rw [add_str' (by rw [len_app, L3]; omega)]
      unfold inner
      rw [e0]
    have e3 : ∀ lo hi M, opSl (.str u) lo hi M = some (.str (cutS u lo hi), M) := fun lo hi M => sl_str' (by omega)
    try (simp (config := { maxSteps := 1000000 }) only [wS_seq, wS_nx, wS_expr, wS_ret, wS_retN, wS_asg, wS_par2, wS_par3, wS_sub, wS_if, wS_for, wS_brk, wS_cont, wS_pass, after_nx, after_rt, after_bk, after_ct, wE_bind, wE_pure, wE_mem, wE_var, wE_call, wE_bin, wE_un, wE_nil, wE_cons, wE_tup, wE_lst, wE_cb, wE_lenSet, wE_meth, wE_tOfE, wE_tTru, wE_tAnd, wE_tOr, wE_tNot, wE_tYes, wE_if, wE_and, wE_or, wE_not, wE_oNo, wE_oSome, wE_sl, wE_iOf, wE_iSeq, gN_f, gT_f, gsNil_f, gsCons_f, wM_some, wM_newL, wM_if, List.getElem?_cons_zero, List.getElem?_cons_succ, List.set_cons_zero, List.set_cons_succ, List.map_cons, List.map_nil, List.cons_append, List.nil_append, Nat.reduceSub, List.replicate_succ, List.replicate_zero, List.length_cons, List.length_nil, Nat.reduceAdd, Option.some.injEq, exists_eq_left', exists_eq_left, D.bl.injEq, D.int.injEq, List.cons.injEq, and_true, true_and, exists_and_left, reduceCtorEq, false_and, and_false, exists_false, exists_const, if_true, if_false, Bool.false_eq_true, wipeE, ite_true, ite_false, exists_and_right, DL.eq_int, DL.ne_int, DL.add_int, DL.sub_int', DL.cmp_int, wM_mul, wM_fdiv, wM_mod, wM_pow, wM_shl, wM_shr, tyD_str, truD_bl, ex1, ex2, exists_eq', exists_eq, Option.bind_some, ix_abc m0 m1, e1, e2, e3, strOf_int])
    refine ⟨cmul_l ?_, by decide⟩
    simp only [List.mem_cons, List.not_mem_nil, or_false] at hst
    omega
  · rw [map_upto]
    have hau : at_.toNat ≤ u.length := by omega
    obtain ⟨ts, h3, h4⟩ := sort_names (l := M6.length) (n := n.toNat) (M := M6 ++ [.lst ((List.range n.toNat).map fun (k : Nat) => D.str (inner u at_.toNat (97 + ((first + step * (k : Nat)) % 26).toNat)))]) (fun (k : Nat) => inner u at_.toNat (97 + ((first + step * (k : Nat)) % 26).toNat)) (by omega) get_new (fun i hi j hj e => by
      have := congrArg (fun x => (cl x)[at_.toNat]?) e
      simp only [inner_at hau, Option.some.injEq] at this
      simp only [List.mem_cons, List.not_mem_nil, or_false] at hst
      rcases hst with rfl | rfl | rfl | rfl | rfl | rfl <;> omega) (fun i hi => by
      refine ⟨?_, ?_, ?_⟩
      · rw [← cl_len, cl_inner hau]; simp; omega
      · rw [← cl_len, cl_inner hau, List.length_append, List.length_cons, List.length_take, List.length_drop, cl_len]; omega
      · intro c hc
        rw [cl_inner hau, List.mem_append, List.mem_cons] at hc
        rcases hc with hc | hc | hc
        · exact hua c (List.mem_of_mem_take hc)
        · subst hc; omega
        · exact hua c (List.mem_of_mem_drop hc))
    rw [h4, wM_some]
    exact ⟨_, rfl, by have := g.le; simp; omega, ⟨ts, h3⟩, h.app.app, g.appN.appN⟩
theorem names_spec {s o : Nat} {n : Int} {M : Mem} (h : St s o M) (h1 : 0 < n) (h2 : n ≤ 13) : wF F_law_names [.ref s, .int n] M (NamesPost s o n.toNat M) := by
  refine wF_fn rfl ?_
  unfold m_law_names
  try (simp (config := { maxSteps := 1000000 }) only [wS_seq, wS_nx, wS_expr, wS_ret, wS_retN, wS_asg, wS_par2, wS_par3, wS_sub, wS_if, wS_for, wS_brk, wS_cont, wS_pass, after_nx, after_rt, after_bk, after_ct, wE_bind, wE_pure, wE_mem, wE_var, wE_call, wE_bin, wE_un, wE_nil, wE_cons, wE_tup, wE_lst, wE_cb, wE_lenSet, wE_meth, wE_tOfE, wE_tTru, wE_tAnd, wE_tOr, wE_tNot, wE_tYes, wE_if, wE_and, wE_or, wE_not, wE_oNo, wE_oSome, wE_sl, wE_iOf, wE_iSeq, gN_f, gT_f, gsNil_f, gsCons_f, wM_some, wM_newL, wM_if, List.getElem?_cons_zero, List.getElem?_cons_succ, List.set_cons_zero, List.set_cons_succ, List.map_cons, List.map_nil, List.cons_append, List.nil_append, Nat.reduceSub, List.replicate_succ, List.replicate_zero, List.length_cons, List.length_nil, Nat.reduceAdd, Option.some.injEq, exists_eq_left', exists_eq_left, D.bl.injEq, D.int.injEq, List.cons.injEq, and_true, true_and, exists_and_left, reduceCtorEq, false_and, and_false, exists_false, exists_const, if_true, if_false, Bool.false_eq_true, wipeE, ite_true, ite_false, exists_and_right, DL.eq_int, DL.ne_int, DL.add_int, DL.sub_int', DL.cmp_int, wM_mul, wM_fdiv, wM_mod, wM_pow, wM_shl, wM_shr, tyD_str, truD_bl, ex1, ex2, exists_eq', exists_eq, Option.bind_some])
  refine (next_spec h (by decide) (by decide)).imp ?_
  rintro _ M1 ⟨first, rfl, f0, f1, s1, g1⟩
  try (simp (config := { maxSteps := 1000000 }) only [wS_seq, wS_nx, wS_expr, wS_ret, wS_retN, wS_asg, wS_par2, wS_par3, wS_sub, wS_if, wS_for, wS_brk, wS_cont, wS_pass, after_nx, after_rt, after_bk, after_ct, wE_bind, wE_pure, wE_mem, wE_var, wE_call, wE_bin, wE_un, wE_nil, wE_cons, wE_tup, wE_lst, wE_cb, wE_lenSet, wE_meth, wE_tOfE, wE_tTru, wE_tAnd, wE_tOr, wE_tNot, wE_tYes, wE_if, wE_and, wE_or, wE_not, wE_oNo, wE_oSome, wE_sl, wE_iOf, wE_iSeq, gN_f, gT_f, gsNil_f, gsCons_f, wM_some, wM_newL, wM_if, List.getElem?_cons_zero, List.getElem?_cons_succ, List.set_cons_zero, List.set_cons_succ, List.map_cons, List.map_nil, List.cons_append, List.nil_append, Nat.reduceSub, List.replicate_succ, List.replicate_zero, List.length_cons, List.length_nil, Nat.reduceAdd, Option.some.injEq, exists_eq_left', exists_eq_left, D.bl.injEq, D.int.injEq, List.cons.injEq, and_true, true_and, exists_and_left, reduceCtorEq, false_and, and_false, exists_false, exists_const, if_true, if_false, Bool.false_eq_true, wipeE, ite_true, ite_false, exists_and_right, DL.eq_int, DL.ne_int, DL.add_int, DL.sub_int', DL.cmp_int, wM_mul, wM_fdiv, wM_mod, wM_pow, wM_shl, wM_shr, tyD_str, truD_bl, ex1, ex2, exists_eq', exists_eq, Option.bind_some])
  refine ⟨size_le (by decide), ?_⟩
  refine (next_spec s1.app (by decide) (by decide)).imp ?_
  rintro _ M2 ⟨i, rfl, i0, i1, s2, g2⟩
  have hs := s1.lt
  have e1 := g2.get (l := M1.length) get_new (by simp; omega)
  obtain ⟨step, hst, hstm, est⟩ := atI_map (f := D.int) (l := [1, 3, 5, 7, 9, 11]) i0 i1
  try (simp (config := { maxSteps := 1000000 }) only [wS_seq, wS_nx, wS_expr, wS_ret, wS_retN, wS_asg, wS_par2, wS_par3, wS_sub, wS_if, wS_for, wS_brk, wS_cont, wS_pass, after_nx, after_rt, after_bk, after_ct, wE_bind, wE_pure, wE_mem, wE_var, wE_call, wE_bin, wE_un, wE_nil, wE_cons, wE_tup, wE_lst, wE_cb, wE_lenSet, wE_meth, wE_tOfE, wE_tTru, wE_tAnd, wE_tOr, wE_tNot, wE_tYes, wE_if, wE_and, wE_or, wE_not, wE_oNo, wE_oSome, wE_sl, wE_iOf, wE_iSeq, gN_f, gT_f, gsNil_f, gsCons_f, wM_some, wM_newL, wM_if, List.getElem?_cons_zero, List.getElem?_cons_succ, List.set_cons_zero, List.set_cons_succ, List.map_cons, List.map_nil, List.cons_append, List.nil_append, Nat.reduceSub, List.replicate_succ, List.replicate_zero, List.length_cons, List.length_nil, Nat.reduceAdd, Option.some.injEq, exists_eq_left', exists_eq_left, D.bl.injEq, D.int.injEq, List.cons.injEq, and_true, true_and, exists_and_left, reduceCtorEq, false_and, and_false, exists_false, exists_const, if_true, if_false, Bool.false_eq_true, wipeE, ite_true, ite_false, exists_and_right, DL.eq_int, DL.ne_int, DL.add_int, DL.sub_int', DL.cmp_int, wM_mul, wM_fdiv, wM_mod, wM_pow, wM_shl, wM_shr, tyD_str, truD_bl, ex1, ex2, exists_eq', exists_eq, Option.bind_some, ix_ref e1 est])
  refine ⟨size_le (by decide), ?_⟩
  refine (next_spec s2 (by decide) (by decide)).imp ?_
  rintro _ M3 ⟨size, rfl, z0, z1, s3, g3⟩
  try (simp (config := { maxSteps := 1000000 }) only [wS_seq, wS_nx, wS_expr, wS_ret, wS_retN, wS_asg, wS_par2, wS_par3, wS_sub, wS_if, wS_for, wS_brk, wS_cont, wS_pass, after_nx, after_rt, after_bk, after_ct, wE_bind, wE_pure, wE_mem, wE_var, wE_call, wE_bin, wE_un, wE_nil, wE_cons, wE_tup, wE_lst, wE_cb, wE_lenSet, wE_meth, wE_tOfE, wE_tTru, wE_tAnd, wE_tOr, wE_tNot, wE_tYes, wE_if, wE_and, wE_or, wE_not, wE_oNo, wE_oSome, wE_sl, wE_iOf, wE_iSeq, gN_f, gT_f, gsNil_f, gsCons_f, wM_some, wM_newL, wM_if, List.getElem?_cons_zero, List.getElem?_cons_succ, List.set_cons_zero, List.set_cons_succ, List.map_cons, List.map_nil, List.cons_append, List.nil_append, Nat.reduceSub, List.replicate_succ, List.replicate_zero, List.length_cons, List.length_nil, Nat.reduceAdd, Option.some.injEq, exists_eq_left', exists_eq_left, D.bl.injEq, D.int.injEq, List.cons.injEq, and_true, true_and, exists_and_left, reduceCtorEq, false_and, and_false, exists_false, exists_const, if_true, if_false, Bool.false_eq_true, wipeE, ite_true, ite_false, exists_and_right, DL.eq_int, DL.ne_int, DL.add_int, DL.sub_int', DL.cmp_int, wM_mul, wM_fdiv, wM_mod, wM_pow, wM_shl, wM_shr, tyD_str, truD_bl, ex1, ex2, exists_eq', exists_eq, Option.bind_some])
  refine wE_lc ?_
  try (simp (config := { maxSteps := 1000000 }) only [wS_seq, wS_nx, wS_expr, wS_ret, wS_retN, wS_asg, wS_par2, wS_par3, wS_sub, wS_if, wS_for, wS_brk, wS_cont, wS_pass, after_nx, after_rt, after_bk, after_ct, wE_bind, wE_pure, wE_mem, wE_var, wE_call, wE_bin, wE_un, wE_nil, wE_cons, wE_tup, wE_lst, wE_cb, wE_lenSet, wE_meth, wE_tOfE, wE_tTru, wE_tAnd, wE_tOr, wE_tNot, wE_tYes, wE_if, wE_and, wE_or, wE_not, wE_oNo, wE_oSome, wE_sl, wE_iOf, wE_iSeq, gN_f, gT_f, gsNil_f, gsCons_f, wM_some, wM_newL, wM_if, List.getElem?_cons_zero, List.getElem?_cons_succ, List.set_cons_zero, List.set_cons_succ, List.map_cons, List.map_nil, List.cons_append, List.nil_append, Nat.reduceSub, List.replicate_succ, List.replicate_zero, List.length_cons, List.length_nil, Nat.reduceAdd, Option.some.injEq, exists_eq_left', exists_eq_left, D.bl.injEq, D.int.injEq, List.cons.injEq, and_true, true_and, exists_and_left, reduceCtorEq, false_and, and_false, exists_false, exists_const, if_true, if_false, Bool.false_eq_true, wipeE, ite_true, ite_false, exists_and_right, DL.eq_int, DL.ne_int, DL.add_int, DL.sub_int', DL.cmp_int, wM_mul, wM_fdiv, wM_mod, wM_pow, wM_shl, wM_shr, tyD_str, truD_bl, ex1, ex2, exists_eq', exists_eq, Option.bind_some, rng1_ok (show -(2 ^ 62) ≤ size ∧ size < 2 ^ 62 by omega)])
  refine wp_lc0 (fun j acc M' => ∃ us : List Nat, us.length = j ∧ acc = us.map (fun c => D.str ⟨#[c]⟩) ∧ (∀ c ∈ us, 97 ≤ c ∧ c < 123) ∧ M'[M3.length]? = some (.lst acc) ∧ St s o M' ∧ Go [s, o] M3 M') ?_ ?_ ?_
  · exact ⟨[], rfl, rfl, by simp, get_new, s3.app, Go.app⟩
  · rintro j x acc M4 hj ⟨us, ul, rfl, ua, ue, s4, g4⟩
    refine ⟨rfl, _, rfl, ?_⟩
    try (simp (config := { maxSteps := 1000000 }) only [wS_seq, wS_nx, wS_expr, wS_ret, wS_retN, wS_asg, wS_par2, wS_par3, wS_sub, wS_if, wS_for, wS_brk, wS_cont, wS_pass, after_nx, after_rt, after_bk, after_ct, wE_bind, wE_pure, wE_mem, wE_var, wE_call, wE_bin, wE_un, wE_nil, wE_cons, wE_tup, wE_lst, wE_cb, wE_lenSet, wE_meth, wE_tOfE, wE_tTru, wE_tAnd, wE_tOr, wE_tNot, wE_tYes, wE_if, wE_and, wE_or, wE_not, wE_oNo, wE_oSome, wE_sl, wE_iOf, wE_iSeq, gN_f, gT_f, gsNil_f, gsCons_f, wM_some, wM_newL, wM_if, List.getElem?_cons_zero, List.getElem?_cons_succ, List.set_cons_zero, List.set_cons_succ, List.map_cons, List.map_nil, List.cons_append, List.nil_append, Nat.reduceSub, List.replicate_succ, List.replicate_zero, List.length_cons, List.length_nil, Nat.reduceAdd, Option.some.injEq, exists_eq_left', exists_eq_left, D.bl.injEq, D.int.injEq, List.cons.injEq, and_true, true_and, exists_and_left, reduceCtorEq, false_and, and_false, exists_false, exists_const, if_true, if_false, Bool.false_eq_true, wipeE, ite_true, ite_false, exists_and_right, DL.eq_int, DL.ne_int, DL.add_int, DL.sub_int', DL.cmp_int, wM_mul, wM_fdiv, wM_mod, wM_pow, wM_shl, wM_shr, tyD_str, truD_bl, ex1, ex2, exists_eq', exists_eq, Option.bind_some])
    refine (next_spec s4 (by decide) (by decide)).imp ?_
    rintro _ M5 ⟨c, rfl, c0, c1, s5, g5⟩
    have hs3 := s3.lt
    have e5 := g5.get ue (by simp; omega)
    try (simp (config := { maxSteps := 1000000 }) only [wS_seq, wS_nx, wS_expr, wS_ret, wS_retN, wS_asg, wS_par2, wS_par3, wS_sub, wS_if, wS_for, wS_brk, wS_cont, wS_pass, after_nx, after_rt, after_bk, after_ct, wE_bind, wE_pure, wE_mem, wE_var, wE_call, wE_bin, wE_un, wE_nil, wE_cons, wE_tup, wE_lst, wE_cb, wE_lenSet, wE_meth, wE_tOfE, wE_tTru, wE_tAnd, wE_tOr, wE_tNot, wE_tYes, wE_if, wE_and, wE_or, wE_not, wE_oNo, wE_oSome, wE_sl, wE_iOf, wE_iSeq, gN_f, gT_f, gsNil_f, gsCons_f, wM_some, wM_newL, wM_if, List.getElem?_cons_zero, List.getElem?_cons_succ, List.set_cons_zero, List.set_cons_succ, List.map_cons, List.map_nil, List.cons_append, List.nil_append, Nat.reduceSub, List.replicate_succ, List.replicate_zero, List.length_cons, List.length_nil, Nat.reduceAdd, Option.some.injEq, exists_eq_left', exists_eq_left, D.bl.injEq, D.int.injEq, List.cons.injEq, and_true, true_and, exists_and_left, reduceCtorEq, false_and, and_false, exists_false, exists_const, if_true, if_false, Bool.false_eq_true, wipeE, ite_true, ite_false, exists_and_right, DL.eq_int, DL.ne_int, DL.add_int, DL.sub_int', DL.cmp_int, wM_mul, wM_fdiv, wM_mod, wM_pow, wM_shl, wM_shr, tyD_str, truD_bl, ex1, ex2, exists_eq', exists_eq, Option.bind_some, ix_abc c0 c1])
    refine ⟨e5, ?_, us ++ [97 + c.toNat], by simp; exact ul, by simp, ?_, get_set e5, s3.setN s5 (Nat.le_refl _), (g4.trans g5).setN (Nat.le_refl _)⟩
    · have := lt_of hj
      rw [upto_nat, List.length_map, List.length_range] at this
      rw [List.length_map, ul]
      exact size_lt (by omega)
    · intro d hd
      rcases List.mem_append.mp hd with q | q
      · exact ua d q
      · simp at q; omega
  · rintro acc M4 ⟨us, ul, rfl, ua, ue, s4, g4⟩
    refine ⟨rfl, ?_⟩
    rw [upto_nat, List.length_map, List.length_range] at ul
    have ue' : M4[M3.length]? = some (.lst ((us.map fun c => (⟨#[c]⟩ : Str)).map D.str)) := by rw [List.map_map]; exact ue
    have hj := join_ref (a := "") ue' (by
      have h0 : (("" : Str)).length = 0 := by decide +kernel
      rw [h0, List.map_map, Nat.mul_zero, Nat.add_zero, show us.map ((fun (x : Str) => x.length) ∘ fun c => (⟨#[c]⟩ : Str)) = us.map fun _ => 1 from rfl, List.map_const', List.sum_replicate_nat]
      omega)
    have hcl : cl (Txt.join "" (us.map fun c => (⟨#[c]⟩ : Str))) = us := by
      rw [cl_join, List.map_map, show us.map (cl ∘ fun c => (⟨#[c]⟩ : Str)) = us.map fun c => [c] from rfl]
      clear hj ue' ue ul ua
      induction us with
      | nil => rfl
      | cons c us ih => rw [List.map_cons, List.flatten_cons, ih]; rfl
    generalize hu : Txt.join "" (us.map fun c => (⟨#[c]⟩ : Str)) = u at hj hcl
    have hul : u.length = size.toNat := by rw [← cl_len, hcl, ul]
    try (simp (config := { maxSteps := 1000000 }) only [wS_seq, wS_nx, wS_expr, wS_ret, wS_retN, wS_asg, wS_par2, wS_par3, wS_sub, wS_if, wS_for, wS_brk, wS_cont, wS_pass, after_nx, after_rt, after_bk, after_ct, wE_bind, wE_pure, wE_mem, wE_var, wE_call, wE_bin, wE_un, wE_nil, wE_cons, wE_tup, wE_lst, wE_cb, wE_lenSet, wE_meth, wE_tOfE, wE_tTru, wE_tAnd, wE_tOr, wE_tNot, wE_tYes, wE_if, wE_and, wE_or, wE_not, wE_oNo, wE_oSome, wE_sl, wE_iOf, wE_iSeq, gN_f, gT_f, gsNil_f, gsCons_f, wM_some, wM_newL, wM_if, List.getElem?_cons_zero, List.getElem?_cons_succ, List.set_cons_zero, List.set_cons_succ, List.map_cons, List.map_nil, List.cons_append, List.nil_append, Nat.reduceSub, List.replicate_succ, List.replicate_zero, List.length_cons, List.length_nil, Nat.reduceAdd, Option.some.injEq, exists_eq_left', exists_eq_left, D.bl.injEq, D.int.injEq, List.cons.injEq, and_true, true_and, exists_and_left, reduceCtorEq, false_and, and_false, exists_false, exists_const, if_true, if_false, Bool.false_eq_true, wipeE, ite_true, ite_false, exists_and_right, DL.eq_int, DL.ne_int, DL.add_int, DL.sub_int', DL.cmp_int, wM_mul, wM_fdiv, wM_mod, wM_pow, wM_shl, wM_shr, tyD_str, truD_bl, ex1, ex2, exists_eq', exists_eq, Option.bind_some, hj])
    refine (next_spec s4 (by omega) (by omega)).imp ?_
    rintro _ M5 ⟨at_, rfl, a0, a1, s5, g5⟩
    have hM : Go [s, o] M M5 := (((g1.trans (Go.app.trans g2)).trans g3).trans g4).trans g5
    have l8 : size + 1 ≤ 8 := by omega
    have B := fun M6 h6 g6 => names_b (s := s) (o := o) (n := n) (first := first) (step := step) (size := size) (at_ := at_) (u := u) (M := M) (M6 := M6) h6 g6 h1 h2 f0 f1 hstm a0 (by omega) (by omega) (by rw [hcl]; exact ua)
    by_cases hn : n < 9
    · try (simp (config := { maxSteps := 1000000 }) only [wS_seq, wS_nx, wS_expr, wS_ret, wS_retN, wS_asg, wS_par2, wS_par3, wS_sub, wS_if, wS_for, wS_brk, wS_cont, wS_pass, after_nx, after_rt, after_bk, after_ct, wE_bind, wE_pure, wE_mem, wE_var, wE_call, wE_bin, wE_un, wE_nil, wE_cons, wE_tup, wE_lst, wE_cb, wE_lenSet, wE_meth, wE_tOfE, wE_tTru, wE_tAnd, wE_tOr, wE_tNot, wE_tYes, wE_if, wE_and, wE_or, wE_not, wE_oNo, wE_oSome, wE_sl, wE_iOf, wE_iSeq, gN_f, gT_f, gsNil_f, gsCons_f, wM_some, wM_newL, wM_if, List.getElem?_cons_zero, List.getElem?_cons_succ, List.set_cons_zero, List.set_cons_succ, List.map_cons, List.map_nil, List.cons_append, List.nil_append, Nat.reduceSub, List.replicate_succ, List.replicate_zero, List.length_cons, List.length_nil, Nat.reduceAdd, Option.some.injEq, exists_eq_left', exists_eq_left, D.bl.injEq, D.int.injEq, List.cons.injEq, and_true, true_and, exists_and_left, reduceCtorEq, false_and, and_false, exists_false, exists_const, if_true, if_false, Bool.false_eq_true, wipeE, ite_true, ite_false, exists_and_right, DL.eq_int, DL.ne_int, DL.add_int, DL.sub_int', DL.cmp_int, wM_mul, wM_fdiv, wM_mod, wM_pow, wM_shl, wM_shr, tyD_str, truD_bl, ex1, ex2, exists_eq', exists_eq, Option.bind_some, decide_eq_true hn])
      refine (next_spec s5 (by decide) (by decide)).imp ?_
      rintro _ M6 ⟨r, rfl, r0, r1, s6, g6⟩
      by_cases hr : r = 0
      · try (simp (config := { maxSteps := 1000000 }) only [wS_seq, wS_nx, wS_expr, wS_ret, wS_retN, wS_asg, wS_par2, wS_par3, wS_sub, wS_if, wS_for, wS_brk, wS_cont, wS_pass, after_nx, after_rt, after_bk, after_ct, wE_bind, wE_pure, wE_mem, wE_var, wE_call, wE_bin, wE_un, wE_nil, wE_cons, wE_tup, wE_lst, wE_cb, wE_lenSet, wE_meth, wE_tOfE, wE_tTru, wE_tAnd, wE_tOr, wE_tNot, wE_tYes, wE_if, wE_and, wE_or, wE_not, wE_oNo, wE_oSome, wE_sl, wE_iOf, wE_iSeq, gN_f, gT_f, gsNil_f, gsCons_f, wM_some, wM_newL, wM_if, List.getElem?_cons_zero, List.getElem?_cons_succ, List.set_cons_zero, List.set_cons_succ, List.map_cons, List.map_nil, List.cons_append, List.nil_append, Nat.reduceSub, List.replicate_succ, List.replicate_zero, List.length_cons, List.length_nil, Nat.reduceAdd, Option.some.injEq, exists_eq_left', exists_eq_left, D.bl.injEq, D.int.injEq, List.cons.injEq, and_true, true_and, exists_and_left, reduceCtorEq, false_and, and_false, exists_false, exists_const, if_true, if_false, Bool.false_eq_true, wipeE, ite_true, ite_false, exists_and_right, DL.eq_int, DL.ne_int, DL.add_int, DL.sub_int', DL.cmp_int, wM_mul, wM_fdiv, wM_mod, wM_pow, wM_shl, wM_shr, tyD_str, truD_bl, ex1, ex2, exists_eq', exists_eq, Option.bind_some, hr, decide_true])
        exact names_a s6 (hM.trans g6) h1 h2 f0 f1
      · try (simp (config := { maxSteps := 1000000 }) only [wS_seq, wS_nx, wS_expr, wS_ret, wS_retN, wS_asg, wS_par2, wS_par3, wS_sub, wS_if, wS_for, wS_brk, wS_cont, wS_pass, after_nx, after_rt, after_bk, after_ct, wE_bind, wE_pure, wE_mem, wE_var, wE_call, wE_bin, wE_un, wE_nil, wE_cons, wE_tup, wE_lst, wE_cb, wE_lenSet, wE_meth, wE_tOfE, wE_tTru, wE_tAnd, wE_tOr, wE_tNot, wE_tYes, wE_if, wE_and, wE_or, wE_not, wE_oNo, wE_oSome, wE_sl, wE_iOf, wE_iSeq, gN_f, gT_f, gsNil_f, gsCons_f, wM_some, wM_newL, wM_if, List.getElem?_cons_zero, List.getElem?_cons_succ, List.set_cons_zero, List.set_cons_succ, List.map_cons, List.map_nil, List.cons_append, List.nil_append, Nat.reduceSub, List.replicate_succ, List.replicate_zero, List.length_cons, List.length_nil, Nat.reduceAdd, Option.some.injEq, exists_eq_left', exists_eq_left, D.bl.injEq, D.int.injEq, List.cons.injEq, and_true, true_and, exists_and_left, reduceCtorEq, false_and, and_false, exists_false, exists_const, if_true, if_false, Bool.false_eq_true, wipeE, ite_true, ite_false, exists_and_right, DL.eq_int, DL.ne_int, DL.add_int, DL.sub_int', DL.cmp_int, wM_mul, wM_fdiv, wM_mod, wM_pow, wM_shl, wM_shr, tyD_str, truD_bl, ex1, ex2, exists_eq', exists_eq, Option.bind_some, hr, decide_false])
        exact B M6 s6 (hM.trans g6)
    · try (simp (config := { maxSteps := 1000000 }) only [wS_seq, wS_nx, wS_expr, wS_ret, wS_retN, wS_asg, wS_par2, wS_par3, wS_sub, wS_if, wS_for, wS_brk, wS_cont, wS_pass, after_nx, after_rt, after_bk, after_ct, wE_bind, wE_pure, wE_mem, wE_var, wE_call, wE_bin, wE_un, wE_nil, wE_cons, wE_tup, wE_lst, wE_cb, wE_lenSet, wE_meth, wE_tOfE, wE_tTru, wE_tAnd, wE_tOr, wE_tNot, wE_tYes, wE_if, wE_and, wE_or, wE_not, wE_oNo, wE_oSome, wE_sl, wE_iOf, wE_iSeq, gN_f, gT_f, gsNil_f, gsCons_f, wM_some, wM_newL, wM_if, List.getElem?_cons_zero, List.getElem?_cons_succ, List.set_cons_zero, List.set_cons_succ, List.map_cons, List.map_nil, List.cons_append, List.nil_append, Nat.reduceSub, List.replicate_succ, List.replicate_zero, List.length_cons, List.length_nil, Nat.reduceAdd, Option.some.injEq, exists_eq_left', exists_eq_left, D.bl.injEq, D.int.injEq, List.cons.injEq, and_true, true_and, exists_and_left, reduceCtorEq, false_and, and_false, exists_false, exists_const, if_true, if_false, Bool.false_eq_true, wipeE, ite_true, ite_false, exists_and_right, DL.eq_int, DL.ne_int, DL.add_int, DL.sub_int', DL.cmp_int, wM_mul, wM_fdiv, wM_mod, wM_pow, wM_shl, wM_shr, tyD_str, truD_bl, ex1, ex2, exists_eq', exists_eq, Option.bind_some, decide_eq_false hn])
      exact B M5 s5 hM
end G

namespace G
open PySem PySem.Spec PyProof.Rows L2 DL
/-! ### beds -/
structure Kd where
  f : Str
  n : Str
  e : Str
  s : Str
  w : Str
def Kd.d (k : Kd) : D := .tup [.str k.f, .str k.n, .str k.e, .str k.s, .str k.w]
def stD (p : Str × Int) : D := .tup [.str p.1, .int p.2]
def sdD (t : Int × Int × Int) : D := .tup [.int t.1, .int t.2.1, .int t.2.2]
def twD (p : Str × Str) : D := .tup [.str p.1, .str p.2]
structure Bed where
  en : Int
  st : List (Str × Int)
  ks : List Kd
  w : Int
  h : Int
  sd : List (Int × Int × Int)
def Bed.ho (b : Bed) : D := .tup [.int b.en, .tup (b.st.map stD), .tup (b.ks.map Kd.d)]
def Bed.fl (b : Bed) : D := .tup [.int b.w, .int b.h]
def Bed.d (b : Bed) : D := .tup [b.ho, b.fl, .tup (b.sd.map sdD)]
def onFrame (w : Int) (x y : Nat) : Bool := decide ((y : Int) = 0) || decide ((x : Int) = w - 1)
/-- the places of the north row and the east column, column by column -/
def frameCol (w h : Int) (x : Nat) : List (Int × Int) := ((List.range h.toNat).filter fun y => onFrame w x y).map fun (y : Nat) => ((x : Int), (y : Int))
def frameL (w h : Int) : List (Int × Int) := (List.range w.toNat).flatMap (frameCol w h)
structure Framed (b : Bed) (most km : Int) : Prop where
  en : b.en = 2
  st : ∃ ns : List Str, b.st = ns.map (fun x => (x, 1)) ∧ 0 < ns.length ∧ ns.length ≤ 4 ∧ ns.Nodup ∧ (∀ x ∈ ns, NameOk x) ∧ ns.Pairwise (fun a b => cl a ≤ cl b) ∧ ∀ k ∈ b.ks, k.n ∈ ns ∧ k.e ∈ ns ∧ k.s ∈ ns ∧ k.w ∈ ns
  ks : 0 < b.ks.length ∧ (b.ks.length : Int) ≤ km
  fc : ∀ k ∈ b.ks, k.f.length ≤ 1 ∧ ∀ c ∈ cl k.f, 48 ≤ c ∧ c < 123
  nd : (b.ks.map fun k => (k.s, k.e)).Nodup
  w : 0 < b.w ∧ b.w ≤ most
  h : 0 < b.h ∧ b.h ≤ most
  sd : b.sd.map (fun t => (t.1, t.2.1)) = frameL b.w b.h
  kd : ∀ t ∈ b.sd, 0 ≤ t.2.2 ∧ t.2.2 < b.ks.length
abbrev SGN : Str := "abcdefghijklmnopqrstuvwxyz0123456789"
theorem sgn_at : ∀ j < 36, ∃ c, (cl SGN)[j]? = some c ∧ 48 ≤ c ∧ c < 123 := by
  have h : ∀ j < 36, (match (cl SGN)[j]? with
    | some c => decide (48 ≤ c ∧ c < 123)
    | none => false) = true := by decide +kernel
  intro j hj
  have := h j hj
  split at this
  · exact ⟨_, by assumption, of_decide_eq_true this⟩
  · cases this
theorem sgn_len : SGN.length = 36 := by decide +kernel
theorem ix_sgn {i : Int} (h0 : 0 ≤ i) (h1 : i < 36) : ∃ c : Nat, 48 ≤ c ∧ c < 123 ∧ ∀ M, opIx (.str SGN) (.int i) M = some (.str ⟨#[c]⟩, M) := by
  obtain ⟨c, hc, c0, c1⟩ := sgn_at i.toNat (by omega)
  exact ⟨c, c0, c1, fun M => ix_str hc (by omega) (by rw [sgn_len]; decide)⟩
theorem min2_int {i j : Int} {M : Mem} : cMin2 [.int i, .int j] M = some (.int (if j < i then j else i), M) := rfl
def pr (ns : List Str) (ms : List Str) : List (Str × Str) := ms.flatMap fun s => ns.map fun e => (s, e)
theorem pr_len (ns : List Str) : ∀ ms : List Str, (pr ns ms).length = ms.length * ns.length
  | [] => by simp [pr]
  | x :: ms => by
    have := pr_len ns ms
    unfold pr at this ⊢
    rw [List.flatMap_cons, List.length_append, this, List.length_map, List.length_cons, Nat.succ_mul, Nat.add_comm]
theorem pr_snoc (ns ms : List Str) (x : Str) : pr ns (ms ++ [x]) = pr ns ms ++ ns.map fun e => (x, e) := by
  unfold pr
  rw [List.flatMap_append, List.flatMap_cons, List.flatMap_nil, List.append_nil]
theorem pr_nodup {ns ms : List Str} (h1 : ns.Nodup) (h2 : ms.Nodup) : (pr ns ms).Nodup := by
  unfold pr List.Nodup
  rw [List.pairwise_flatMap]
  refine ⟨fun s _ => ?_, h2.imp fun {a b} hab x hx y hy => ?_⟩
  · rw [List.pairwise_map]
    exact h1.imp fun {a b} hab e => hab (congrArg Prod.snd e)
  · obtain ⟨u, _, rfl⟩ := List.mem_map.mp hx
    obtain ⟨v, _, rfl⟩ := List.mem_map.mp hy
    exact fun e => hab (congrArg Prod.fst e)
theorem pr_mem {ns ms : List Str} {p : Str × Str} (h : p ∈ pr ns ms) : p.1 ∈ ms ∧ p.2 ∈ ns := by
  unfold pr at h
  obtain ⟨s, hs, h⟩ := List.mem_flatMap.mp h
  obtain ⟨e, he, rfl⟩ := List.mem_map.mp h
  exact ⟨hs, he⟩
def FPost (s o : Nat) (most km : Int) (M : Mem) (d : D) (M' : Mem) : Prop := ∃ b : Bed, d = b.d ∧ Framed b most km ∧ St s o M' ∧ Go [s, o] M M'
theorem framed_spec {s o : Nat} {most km : Int} {M : Mem} (h : St s o M) (h1 : 0 < most) (h2 : most ≤ 12) (h3 : 0 < km) (h4 : km ≤ 120) : wF F_law_framed [.ref s, .int most, .int km] M (FPost s o most km M) := by
  refine wF_fn rfl ?_
  unfold m_law_framed
  try (simp (config := { maxSteps := 1000000 }) only [wS_seq, wS_nx, wS_expr, wS_ret, wS_retN, wS_asg, wS_par2, wS_par3, wS_sub, wS_if, wS_for, wS_brk, wS_cont, wS_pass, after_nx, after_rt, after_bk, after_ct, wE_bind, wE_pure, wE_mem, wE_var, wE_call, wE_bin, wE_un, wE_nil, wE_cons, wE_tup, wE_lst, wE_cb, wE_lenSet, wE_meth, wE_tOfE, wE_tTru, wE_tAnd, wE_tOr, wE_tNot, wE_tYes, wE_if, wE_and, wE_or, wE_not, wE_oNo, wE_oSome, wE_sl, wE_iOf, wE_iSeq, gN_f, gT_f, gsNil_f, gsCons_f, wM_some, wM_newL, wM_if, List.getElem?_cons_zero, List.getElem?_cons_succ, List.set_cons_zero, List.set_cons_succ, List.map_cons, List.map_nil, List.cons_append, List.nil_append, Nat.reduceSub, List.replicate_succ, List.replicate_zero, List.length_cons, List.length_nil, Nat.reduceAdd, Option.some.injEq, exists_eq_left', exists_eq_left, D.bl.injEq, D.int.injEq, List.cons.injEq, and_true, true_and, exists_and_left, reduceCtorEq, false_and, and_false, exists_false, exists_const, if_true, if_false, Bool.false_eq_true, wipeE, ite_true, ite_false, exists_and_right, DL.eq_int, DL.ne_int, DL.add_int, DL.sub_int', DL.cmp_int, wM_mul, wM_fdiv, wM_mod, wM_pow, wM_shl, wM_shr, tyD_str, truD_bl, ex1, ex2, exists_eq', exists_eq, Option.bind_some])
  refine (next_spec h (by decide) (by decide)).imp ?_
  rintro _ M1 ⟨n0, rfl, a0, a1, s1, g1⟩
  try (simp (config := { maxSteps := 1000000 }) only [wS_seq, wS_nx, wS_expr, wS_ret, wS_retN, wS_asg, wS_par2, wS_par3, wS_sub, wS_if, wS_for, wS_brk, wS_cont, wS_pass, after_nx, after_rt, after_bk, after_ct, wE_bind, wE_pure, wE_mem, wE_var, wE_call, wE_bin, wE_un, wE_nil, wE_cons, wE_tup, wE_lst, wE_cb, wE_lenSet, wE_meth, wE_tOfE, wE_tTru, wE_tAnd, wE_tOr, wE_tNot, wE_tYes, wE_if, wE_and, wE_or, wE_not, wE_oNo, wE_oSome, wE_sl, wE_iOf, wE_iSeq, gN_f, gT_f, gsNil_f, gsCons_f, wM_some, wM_newL, wM_if, List.getElem?_cons_zero, List.getElem?_cons_succ, List.set_cons_zero, List.set_cons_succ, List.map_cons, List.map_nil, List.cons_append, List.nil_append, Nat.reduceSub, List.replicate_succ, List.replicate_zero, List.length_cons, List.length_nil, Nat.reduceAdd, Option.some.injEq, exists_eq_left', exists_eq_left, D.bl.injEq, D.int.injEq, List.cons.injEq, and_true, true_and, exists_and_left, reduceCtorEq, false_and, and_false, exists_false, exists_const, if_true, if_false, Bool.false_eq_true, wipeE, ite_true, ite_false, exists_and_right, DL.eq_int, DL.ne_int, DL.add_int, DL.sub_int', DL.cmp_int, wM_mul, wM_fdiv, wM_mod, wM_pow, wM_shl, wM_shr, tyD_str, truD_bl, ex1, ex2, exists_eq', exists_eq, Option.bind_some])
  refine (names_spec s1 (by omega) (by omega)).imp ?_
  rintro _ M2 ⟨l0, rfl, hl0, ⟨ns, hn⟩, s2, g2⟩
  have nl : ns.length = (1 + n0).toNat := hn.len
  have hs := s1.lt
  have l0s : l0 ∉ [s, o] := by simp; omega
  try (simp (config := { maxSteps := 1000000 }) only [wS_seq, wS_nx, wS_expr, wS_ret, wS_retN, wS_asg, wS_par2, wS_par3, wS_sub, wS_if, wS_for, wS_brk, wS_cont, wS_pass, after_nx, after_rt, after_bk, after_ct, wE_bind, wE_pure, wE_mem, wE_var, wE_call, wE_bin, wE_un, wE_nil, wE_cons, wE_tup, wE_lst, wE_cb, wE_lenSet, wE_meth, wE_tOfE, wE_tTru, wE_tAnd, wE_tOr, wE_tNot, wE_tYes, wE_if, wE_and, wE_or, wE_not, wE_oNo, wE_oSome, wE_sl, wE_iOf, wE_iSeq, gN_f, gT_f, gsNil_f, gsCons_f, wM_some, wM_newL, wM_if, List.getElem?_cons_zero, List.getElem?_cons_succ, List.set_cons_zero, List.set_cons_succ, List.map_cons, List.map_nil, List.cons_append, List.nil_append, Nat.reduceSub, List.replicate_succ, List.replicate_zero, List.length_cons, List.length_nil, Nat.reduceAdd, Option.some.injEq, exists_eq_left', exists_eq_left, D.bl.injEq, D.int.injEq, List.cons.injEq, and_true, true_and, exists_and_left, reduceCtorEq, false_and, and_false, exists_false, exists_const, if_true, if_false, Bool.false_eq_true, wipeE, ite_true, ite_false, exists_and_right, DL.eq_int, DL.ne_int, DL.add_int, DL.sub_int', DL.cmp_int, wM_mul, wM_fdiv, wM_mod, wM_pow, wM_shl, wM_shr, tyD_str, truD_bl, ex1, ex2, exists_eq', exists_eq, Option.bind_some, len_ref hn.at_, List.length_map])
  refine ⟨size_le (by decide), ?_⟩
  have l0l := lt_of hn.at_
  have N0 : (M2 ++ [.lst []])[l0]? = some (.lst (ns.map .str)) := get_app hn.at_
  try (simp (config := { maxSteps := 1000000 }) only [wS_seq, wS_nx, wS_expr, wS_ret, wS_retN, wS_asg, wS_par2, wS_par3, wS_sub, wS_if, wS_for, wS_brk, wS_cont, wS_pass, after_nx, after_rt, after_bk, after_ct, wE_bind, wE_pure, wE_mem, wE_var, wE_call, wE_bin, wE_un, wE_nil, wE_cons, wE_tup, wE_lst, wE_cb, wE_lenSet, wE_meth, wE_tOfE, wE_tTru, wE_tAnd, wE_tOr, wE_tNot, wE_tYes, wE_if, wE_and, wE_or, wE_not, wE_oNo, wE_oSome, wE_sl, wE_iOf, wE_iSeq, gN_f, gT_f, gsNil_f, gsCons_f, wM_some, wM_newL, wM_if, List.getElem?_cons_zero, List.getElem?_cons_succ, List.set_cons_zero, List.set_cons_succ, List.map_cons, List.map_nil, List.cons_append, List.nil_append, Nat.reduceSub, List.replicate_succ, List.replicate_zero, List.length_cons, List.length_nil, Nat.reduceAdd, Option.some.injEq, exists_eq_left', exists_eq_left, D.bl.injEq, D.int.injEq, List.cons.injEq, and_true, true_and, exists_and_left, reduceCtorEq, false_and, and_false, exists_false, exists_const, if_true, if_false, Bool.false_eq_true, wipeE, ite_true, ite_false, exists_and_right, DL.eq_int, DL.ne_int, DL.add_int, DL.sub_int', DL.cmp_int, wM_mul, wM_fdiv, wM_mod, wM_pow, wM_shl, wM_shr, tyD_str, truD_bl, ex1, ex2, exists_eq', exists_eq, Option.bind_some, itSeq_ref N0])
  -- all twos
  refine wp_for0 (fun j ρ M' => (∃ a, ρ = [some (.ref s), some (.int most), some (.int km), some (.ref l0), some (.int (ns.length : Nat)), some (.ref M2.length), a, none, none, none, none, none, none, none, none, none, none, none]) ∧ M'[M2.length]? = some (.lst ((pr ns (ns.take j)).map twD)) ∧ St s o M' ∧ Go [s, o] M2 M') ?_ ?_ ?_
  · exact ⟨⟨_, rfl⟩, get_new, s2.app, Go.app⟩
  · rintro j x ρ M3 hj ⟨⟨a, rfl⟩, t3, s3, g3⟩
    obtain ⟨so, hso, rfl⟩ : ∃ so, ns[j]? = some so ∧ x = .str so := by
      rw [List.getElem?_map] at hj
      obtain ⟨so, e, rfl⟩ := Option.map_eq_some_iff.mp hj
      exact ⟨so, e, rfl⟩
    have n3 := g3.get hn.at_ l0s
    refine ⟨lstIs_of n3, _, rfl, ?_⟩
    try (simp (config := { maxSteps := 1000000 }) only [wS_seq, wS_nx, wS_expr, wS_ret, wS_retN, wS_asg, wS_par2, wS_par3, wS_sub, wS_if, wS_for, wS_brk, wS_cont, wS_pass, after_nx, after_rt, after_bk, after_ct, wE_bind, wE_pure, wE_mem, wE_var, wE_call, wE_bin, wE_un, wE_nil, wE_cons, wE_tup, wE_lst, wE_cb, wE_lenSet, wE_meth, wE_tOfE, wE_tTru, wE_tAnd, wE_tOr, wE_tNot, wE_tYes, wE_if, wE_and, wE_or, wE_not, wE_oNo, wE_oSome, wE_sl, wE_iOf, wE_iSeq, gN_f, gT_f, gsNil_f, gsCons_f, wM_some, wM_newL, wM_if, List.getElem?_cons_zero, List.getElem?_cons_succ, List.set_cons_zero, List.set_cons_succ, List.map_cons, List.map_nil, List.cons_append, List.nil_append, Nat.reduceSub, List.replicate_succ, List.replicate_zero, List.length_cons, List.length_nil, Nat.reduceAdd, Option.some.injEq, exists_eq_left', exists_eq_left, D.bl.injEq, D.int.injEq, List.cons.injEq, and_true, true_and, exists_and_left, reduceCtorEq, false_and, and_false, exists_false, exists_const, if_true, if_false, Bool.false_eq_true, wipeE, ite_true, ite_false, exists_and_right, DL.eq_int, DL.ne_int, DL.add_int, DL.sub_int', DL.cmp_int, wM_mul, wM_fdiv, wM_mod, wM_pow, wM_shl, wM_shr, tyD_str, truD_bl, ex1, ex2, exists_eq', exists_eq, Option.bind_some, ty_lst t3])
    refine lc_all (fun d => .tup [.str so, d]) ?_
    try (simp (config := { maxSteps := 1000000 }) only [wS_seq, wS_nx, wS_expr, wS_ret, wS_retN, wS_asg, wS_par2, wS_par3, wS_sub, wS_if, wS_for, wS_brk, wS_cont, wS_pass, after_nx, after_rt, after_bk, after_ct, wE_bind, wE_pure, wE_mem, wE_var, wE_call, wE_bin, wE_un, wE_nil, wE_cons, wE_tup, wE_lst, wE_cb, wE_lenSet, wE_meth, wE_tOfE, wE_tTru, wE_tAnd, wE_tOr, wE_tNot, wE_tYes, wE_if, wE_and, wE_or, wE_not, wE_oNo, wE_oSome, wE_sl, wE_iOf, wE_iSeq, gN_f, gT_f, gsNil_f, gsCons_f, wM_some, wM_newL, wM_if, List.getElem?_cons_zero, List.getElem?_cons_succ, List.set_cons_zero, List.set_cons_succ, List.map_cons, List.map_nil, List.cons_append, List.nil_append, Nat.reduceSub, List.replicate_succ, List.replicate_zero, List.length_cons, List.length_nil, Nat.reduceAdd, Option.some.injEq, exists_eq_left', exists_eq_left, D.bl.injEq, D.int.injEq, List.cons.injEq, and_true, true_and, exists_and_left, reduceCtorEq, false_and, and_false, exists_false, exists_const, if_true, if_false, Bool.false_eq_true, wipeE, ite_true, ite_false, exists_and_right, DL.eq_int, DL.ne_int, DL.add_int, DL.sub_int', DL.cmp_int, wM_mul, wM_fdiv, wM_mod, wM_pow, wM_shl, wM_shr, tyD_str, truD_bl, ex1, ex2, exists_eq', exists_eq, Option.bind_some, itSeq_ref n3])
    have lt3 := lt_of t3
    rw [extend_ref (get_app t3) get_new (size_le (by
      have := lt_of hso
      rw [List.length_map, pr_len, List.length_map, List.length_map, List.length_take]
      have h4 : ns.length ≤ 4 := by omega
      have h5 : min j ns.length ≤ 4 := by omega
      have := Nat.mul_le_mul h5 h4
      omega)), wM_some]
    refine ⟨fun acc => lstIs_app n3, by rw [List.length_map]; omega, fun _ _ _ => size_le (by decide), ?_, ?_, (g3.appN).setN (Nat.le_refl _)⟩
    · rw [get_set (get_app t3), List.take_add_one, hso, Option.toList_some, pr_snoc, List.map_append, List.map_map, List.map_map]
      rfl
    · exact s2.setN s3.app (Nat.le_refl _)
  · rintro ρ M3 ⟨⟨a, rfl⟩, t3, s3, g3⟩
    refine ⟨lstIs_of (g3.get hn.at_ l0s), ?_⟩
    rw [List.length_map, List.take_length] at t3
    have hs3 := s3.lt
    have lt3 := lt_of t3
    have len3 := g3.le
    try (simp (config := { maxSteps := 1000000 }) only [wS_seq, wS_nx, wS_expr, wS_ret, wS_retN, wS_asg, wS_par2, wS_par3, wS_sub, wS_if, wS_for, wS_brk, wS_cont, wS_pass, after_nx, after_rt, after_bk, after_ct, wE_bind, wE_pure, wE_mem, wE_var, wE_call, wE_bin, wE_un, wE_nil, wE_cons, wE_tup, wE_lst, wE_cb, wE_lenSet, wE_meth, wE_tOfE, wE_tTru, wE_tAnd, wE_tOr, wE_tNot, wE_tYes, wE_if, wE_and, wE_or, wE_not, wE_oNo, wE_oSome, wE_sl, wE_iOf, wE_iSeq, gN_f, gT_f, gsNil_f, gsCons_f, wM_some, wM_newL, wM_if, List.getElem?_cons_zero, List.getElem?_cons_succ, List.set_cons_zero, List.set_cons_succ, List.map_cons, List.map_nil, List.cons_append, List.nil_append, Nat.reduceSub, List.replicate_succ, List.replicate_zero, List.length_cons, List.length_nil, Nat.reduceAdd, Option.some.injEq, exists_eq_left', exists_eq_left, D.bl.injEq, D.int.injEq, List.cons.injEq, and_true, true_and, exists_and_left, reduceCtorEq, false_and, and_false, exists_false, exists_const, if_true, if_false, Bool.false_eq_true, wipeE, ite_true, ite_false, exists_and_right, DL.eq_int, DL.ne_int, DL.add_int, DL.sub_int', DL.cmp_int, wM_mul, wM_fdiv, wM_mod, wM_pow, wM_shl, wM_shr, tyD_str, truD_bl, ex1, ex2, exists_eq', exists_eq, Option.bind_some])
    refine ⟨size_le (by decide), ?_⟩
    rw [len_ref (get_app t3), wM_some, List.length_map, pr_len]
    refine (next_spec s3.app h3 (by omega)).imp ?_
    rintro _ M4 ⟨r, rfl, r0, r1, s4, g4⟩
    have nl4 : ns.length ≤ 4 := by omega
    have nl1 : 1 ≤ ns.length := by omega
    have nm1 := Nat.mul_le_mul nl1 nl1
    have nm4 := Nat.mul_le_mul nl4 nl4
    try (simp (config := { maxSteps := 1000000 }) only [wS_seq, wS_nx, wS_expr, wS_ret, wS_retN, wS_asg, wS_par2, wS_par3, wS_sub, wS_if, wS_for, wS_brk, wS_cont, wS_pass, after_nx, after_rt, after_bk, after_ct, wE_bind, wE_pure, wE_mem, wE_var, wE_call, wE_bin, wE_un, wE_nil, wE_cons, wE_tup, wE_lst, wE_cb, wE_lenSet, wE_meth, wE_tOfE, wE_tTru, wE_tAnd, wE_tOr, wE_tNot, wE_tYes, wE_if, wE_and, wE_or, wE_not, wE_oNo, wE_oSome, wE_sl, wE_iOf, wE_iSeq, gN_f, gT_f, gsNil_f, gsCons_f, wM_some, wM_newL, wM_if, List.getElem?_cons_zero, List.getElem?_cons_succ, List.set_cons_zero, List.set_cons_succ, List.map_cons, List.map_nil, List.cons_append, List.nil_append, Nat.reduceSub, List.replicate_succ, List.replicate_zero, List.length_cons, List.length_nil, Nat.reduceAdd, Option.some.injEq, exists_eq_left', exists_eq_left, D.bl.injEq, D.int.injEq, List.cons.injEq, and_true, true_and, exists_and_left, reduceCtorEq, false_and, and_false, exists_false, exists_const, if_true, if_false, Bool.false_eq_true, wipeE, ite_true, ite_false, exists_and_right, DL.eq_int, DL.ne_int, DL.add_int, DL.sub_int', DL.cmp_int, wM_mul, wM_fdiv, wM_mod, wM_pow, wM_shl, wM_shr, tyD_str, truD_bl, ex1, ex2, exists_eq', exists_eq, Option.bind_some, min2_int])
    generalize hmn : (if 1 + r < ((ns.length * ns.length : Nat) : Int) then 1 + r else ((ns.length * ns.length : Nat) : Int)) = mn
    have mn1 : 1 ≤ mn ∧ mn ≤ ((ns.length * ns.length : Nat) : Int) ∧ mn ≤ km := by
      split at hmn <;> omega
    try (simp (config := { maxSteps := 1000000 }) only [wS_seq, wS_nx, wS_expr, wS_ret, wS_retN, wS_asg, wS_par2, wS_par3, wS_sub, wS_if, wS_for, wS_brk, wS_cont, wS_pass, after_nx, after_rt, after_bk, after_ct, wE_bind, wE_pure, wE_mem, wE_var, wE_call, wE_bin, wE_un, wE_nil, wE_cons, wE_tup, wE_lst, wE_cb, wE_lenSet, wE_meth, wE_tOfE, wE_tTru, wE_tAnd, wE_tOr, wE_tNot, wE_tYes, wE_if, wE_and, wE_or, wE_not, wE_oNo, wE_oSome, wE_sl, wE_iOf, wE_iSeq, gN_f, gT_f, gsNil_f, gsCons_f, wM_some, wM_newL, wM_if, List.getElem?_cons_zero, List.getElem?_cons_succ, List.set_cons_zero, List.set_cons_succ, List.map_cons, List.map_nil, List.cons_append, List.nil_append, Nat.reduceSub, List.replicate_succ, List.replicate_zero, List.length_cons, List.length_nil, Nat.reduceAdd, Option.some.injEq, exists_eq_left', exists_eq_left, D.bl.injEq, D.int.injEq, List.cons.injEq, and_true, true_and, exists_and_left, reduceCtorEq, false_and, and_false, exists_false, exists_const, if_true, if_false, Bool.false_eq_true, wipeE, ite_true, ite_false, exists_and_right, DL.eq_int, DL.ne_int, DL.add_int, DL.sub_int', DL.cmp_int, wM_mul, wM_fdiv, wM_mod, wM_pow, wM_shl, wM_shr, tyD_str, truD_bl, ex1, ex2, exists_eq', exists_eq, Option.bind_some, rng1_ok (show -(2 ^ 62) ≤ mn ∧ mn < 2 ^ 62 by omega)])
    have t4 := g4.get (get_app t3) (by simp; omega)
    have n4 := g4.get (get_app (g3.get hn.at_ l0s)) l0s
    have k4 := g4.get (l := M3.length) get_new (by simp; omega)
    have len4 := g4.le
    rw [List.length_append, List.length_singleton] at len4
    refine wp_for0 (fun j ρ M' => (∃ a b c d, ρ = [some (.ref s), some (.int most), some (.int km), some (.ref l0), some (.int (ns.length : Nat)), some (.ref M2.length), a, some (.str SGN), some (.ref M3.length), b, c, d, none, none, none, none, none, none]) ∧ (∃ (us ws : List (Str × Str)) (ks : List Kd), us.length = j ∧ (us ++ ws).Perm (pr ns ns) ∧ ks.map (fun k => (k.s, k.e)) = us ∧ (∀ k ∈ ks, k.n ∈ ns ∧ k.e ∈ ns ∧ k.s ∈ ns ∧ k.w ∈ ns) ∧ (∀ k ∈ ks, k.f.length ≤ 1 ∧ ∀ c ∈ cl k.f, 48 ≤ c ∧ c < 123) ∧ M'[M2.length]? = some (.lst (ws.map twD)) ∧ M'[M3.length]? = some (.lst (ks.map Kd.d))) ∧ St s o M' ∧ Go [s, o, M2.length, M3.length] M4 M') ?_ ?_ ?_
    · exact ⟨⟨_, _, _, _, rfl⟩, ⟨[], pr ns ns, [], rfl, .refl _, rfl, by simp, by simp, t4, k4⟩, s4, Go.refl⟩
    · rintro j x ρ M5 hj ⟨⟨a, b, c, d, rfl⟩, ⟨us, ws, ks, uj, pm, ku, km1, kf, t5, k5⟩, s5, g5⟩
      obtain ⟨j, hj, rfl⟩ := mem_upto (List.mem_of_getElem? hj)
      have jl := lt_of hj
      rw [upto_nat, List.length_map, List.length_range] at jl
      have pl := pm.length_eq
      rw [List.length_append, pr_len] at pl
      have wl : 0 < ws.length := by omega
      refine ⟨rfl, _, rfl, ?_⟩
      try (simp (config := { maxSteps := 1000000 }) only [wS_seq, wS_nx, wS_expr, wS_ret, wS_retN, wS_asg, wS_par2, wS_par3, wS_sub, wS_if, wS_for, wS_brk, wS_cont, wS_pass, after_nx, after_rt, after_bk, after_ct, wE_bind, wE_pure, wE_mem, wE_var, wE_call, wE_bin, wE_un, wE_nil, wE_cons, wE_tup, wE_lst, wE_cb, wE_lenSet, wE_meth, wE_tOfE, wE_tTru, wE_tAnd, wE_tOr, wE_tNot, wE_tYes, wE_if, wE_and, wE_or, wE_not, wE_oNo, wE_oSome, wE_sl, wE_iOf, wE_iSeq, gN_f, gT_f, gsNil_f, gsCons_f, wM_some, wM_newL, wM_if, List.getElem?_cons_zero, List.getElem?_cons_succ, List.set_cons_zero, List.set_cons_succ, List.map_cons, List.map_nil, List.cons_append, List.nil_append, Nat.reduceSub, List.replicate_succ, List.replicate_zero, List.length_cons, List.length_nil, Nat.reduceAdd, Option.some.injEq, exists_eq_left', exists_eq_left, D.bl.injEq, D.int.injEq, List.cons.injEq, and_true, true_and, exists_and_left, reduceCtorEq, false_and, and_false, exists_false, exists_const, if_true, if_false, Bool.false_eq_true, wipeE, ite_true, ite_false, exists_and_right, DL.eq_int, DL.ne_int, DL.add_int, DL.sub_int', DL.cmp_int, wM_mul, wM_fdiv, wM_mod, wM_pow, wM_shl, wM_shr, tyD_str, truD_bl, ex1, ex2, exists_eq', exists_eq, Option.bind_some, ty_lst t5, len_ref t5, List.length_map])
      refine (next_spec s5 (by omega) (by omega)).imp ?_
      rintro _ M6 ⟨i, rfl, i0, i1, s6, g6⟩
      have t6 := g6.get t5 (by simp; omega)
      have k6 := g6.get k5 (by simp; omega)
      obtain ⟨p, hp, hpm, _⟩ := atI_map (f := twD) i0 i1
      have hp' : (ws.map twD)[i.toNat]? = some (twD p) := by rw [List.getElem?_map, hp]; rfl
      rw [popAt_ref t6 hp' (by omega) (by rw [List.length_map]; exact size_le (by omega)), wM_some]
      have len5 := g5.le
      have len6 := g6.le
      have hs4 := s4.lt
      have ne1 : s ≠ M2.length ∧ o ≠ M2.length ∧ s ≠ M3.length ∧ o ≠ M3.length ∧ M2.length ≠ M3.length := by omega
      have ii : i.toNat < ws.length := by omega
      have w7 : (M6.set M2.length (.lst ((ws.map twD).eraseIdx i.toNat)))[M2.length]? = some (.lst ((ws.eraseIdx i.toNat).map twD)) := by rw [get_set t6, erase_map]
      have k7 := get_ne (u := .lst ((ws.map twD).eraseIdx i.toNat)) ne1.2.2.2.2.symm k6
      have s7 : St s o (M6.set M2.length (.lst ((ws.map twD).eraseIdx i.toNat))) := s6.go (X := [M2.length]) (Go.set (by simp)) (by simp; omega) (by simp; omega)
      have g7 : Go [s, o, M2.length, M3.length] M4 (M6.set M2.length (.lst ((ws.map twD).eraseIdx i.toNat))) := (g5.trans (g6.mono (by simp))).trans (Go.set (by simp))
      generalize M6.set M2.length (.lst ((ws.map twD).eraseIdx i.toNat)) = M7 at w7 k7 s7 g7
      try (simp (config := { maxSteps := 1000000 }) only [wS_seq, wS_nx, wS_expr, wS_ret, wS_retN, wS_asg, wS_par2, wS_par3, wS_sub, wS_if, wS_for, wS_brk, wS_cont, wS_pass, after_nx, after_rt, after_bk, after_ct, wE_bind, wE_pure, wE_mem, wE_var, wE_call, wE_bin, wE_un, wE_nil, wE_cons, wE_tup, wE_lst, wE_cb, wE_lenSet, wE_meth, wE_tOfE, wE_tTru, wE_tAnd, wE_tOr, wE_tNot, wE_tYes, wE_if, wE_and, wE_or, wE_not, wE_oNo, wE_oSome, wE_sl, wE_iOf, wE_iSeq, gN_f, gT_f, gsNil_f, gsCons_f, wM_some, wM_newL, wM_if, List.getElem?_cons_zero, List.getElem?_cons_succ, List.set_cons_zero, List.set_cons_succ, List.map_cons, List.map_nil, List.cons_append, List.nil_append, Nat.reduceSub, List.replicate_succ, List.replicate_zero, List.length_cons, List.length_nil, Nat.reduceAdd, Option.some.injEq, exists_eq_left', exists_eq_left, D.bl.injEq, D.int.injEq, List.cons.injEq, and_true, true_and, exists_and_left, reduceCtorEq, false_and, and_false, exists_false, exists_const, if_true, if_false, Bool.false_eq_true, wipeE, ite_true, ite_false, exists_and_right, DL.eq_int, DL.ne_int, DL.add_int, DL.sub_int', DL.cmp_int, wM_mul, wM_fdiv, wM_mod, wM_pow, wM_shl, wM_shr, tyD_str, truD_bl, ex1, ex2, exists_eq', exists_eq, Option.bind_some, twD])
      refine (next_spec s7 (by decide) (by decide)).imp ?_
      rintro _ M8 ⟨q1, rfl, q10, q11, s8, g8⟩
      obtain ⟨c1, c10, c11, ec⟩ := ix_sgn q10 q11
      try (simp (config := { maxSteps := 1000000 }) only [wS_seq, wS_nx, wS_expr, wS_ret, wS_retN, wS_asg, wS_par2, wS_par3, wS_sub, wS_if, wS_for, wS_brk, wS_cont, wS_pass, after_nx, after_rt, after_bk, after_ct, wE_bind, wE_pure, wE_mem, wE_var, wE_call, wE_bin, wE_un, wE_nil, wE_cons, wE_tup, wE_lst, wE_cb, wE_lenSet, wE_meth, wE_tOfE, wE_tTru, wE_tAnd, wE_tOr, wE_tNot, wE_tYes, wE_if, wE_and, wE_or, wE_not, wE_oNo, wE_oSome, wE_sl, wE_iOf, wE_iSeq, gN_f, gT_f, gsNil_f, gsCons_f, wM_some, wM_newL, wM_if, List.getElem?_cons_zero, List.getElem?_cons_succ, List.set_cons_zero, List.set_cons_succ, List.map_cons, List.map_nil, List.cons_append, List.nil_append, Nat.reduceSub, List.replicate_succ, List.replicate_zero, List.length_cons, List.length_nil, Nat.reduceAdd, Option.some.injEq, exists_eq_left', exists_eq_left, D.bl.injEq, D.int.injEq, List.cons.injEq, and_true, true_and, exists_and_left, reduceCtorEq, false_and, and_false, exists_false, exists_const, if_true, if_false, Bool.false_eq_true, wipeE, ite_true, ite_false, exists_and_right, DL.eq_int, DL.ne_int, DL.add_int, DL.sub_int', DL.cmp_int, wM_mul, wM_fdiv, wM_mod, wM_pow, wM_shl, wM_shr, tyD_str, truD_bl, ex1, ex2, exists_eq', exists_eq, Option.bind_some, ec])
      refine ⟨size_le (by decide), ?_⟩
      refine (next_spec s8.app (by decide) (by decide)).imp ?_
      rintro _ M9 ⟨q2, rfl, q20, q21, s9, g9⟩
      have f9 := g9.get (l := M8.length) get_new (by have := s8.lt; simp; omega)
      obtain ⟨fc, hfc, hfm, ef⟩ := atI_map (f := D.str) (l := ["", ⟨#[c1]⟩]) q20 q21
      try (simp (config := { maxSteps := 1000000 }) only [wS_seq, wS_nx, wS_expr, wS_ret, wS_retN, wS_asg, wS_par2, wS_par3, wS_sub, wS_if, wS_for, wS_brk, wS_cont, wS_pass, after_nx, after_rt, after_bk, after_ct, wE_bind, wE_pure, wE_mem, wE_var, wE_call, wE_bin, wE_un, wE_nil, wE_cons, wE_tup, wE_lst, wE_cb, wE_lenSet, wE_meth, wE_tOfE, wE_tTru, wE_tAnd, wE_tOr, wE_tNot, wE_tYes, wE_if, wE_and, wE_or, wE_not, wE_oNo, wE_oSome, wE_sl, wE_iOf, wE_iSeq, gN_f, gT_f, gsNil_f, gsCons_f, wM_some, wM_newL, wM_if, List.getElem?_cons_zero, List.getElem?_cons_succ, List.set_cons_zero, List.set_cons_succ, List.map_cons, List.map_nil, List.cons_append, List.nil_append, Nat.reduceSub, List.replicate_succ, List.replicate_zero, List.length_cons, List.length_nil, Nat.reduceAdd, Option.some.injEq, exists_eq_left', exists_eq_left, D.bl.injEq, D.int.injEq, List.cons.injEq, and_true, true_and, exists_and_left, reduceCtorEq, false_and, and_false, exists_false, exists_const, if_true, if_false, Bool.false_eq_true, wipeE, ite_true, ite_false, exists_and_right, DL.eq_int, DL.ne_int, DL.add_int, DL.sub_int', DL.cmp_int, wM_mul, wM_fdiv, wM_mod, wM_pow, wM_shl, wM_shr, tyD_str, truD_bl, ex1, ex2, exists_eq', exists_eq, Option.bind_some, ix_ref f9 ef])
      have g79 : Go [s, o] M7 M9 := g8.trans (Go.app.trans g9)
      have w9 := g79.get w7 (by simp; omega)
      have k9 := g79.get k7 (by simp; omega)
      have n7 := g7.get n4 (by simp at l0s ⊢; omega)
      have n9 := g79.get n7 l0s
      try (simp (config := { maxSteps := 1000000 }) only [wS_seq, wS_nx, wS_expr, wS_ret, wS_retN, wS_asg, wS_par2, wS_par3, wS_sub, wS_if, wS_for, wS_brk, wS_cont, wS_pass, after_nx, after_rt, after_bk, after_ct, wE_bind, wE_pure, wE_mem, wE_var, wE_call, wE_bin, wE_un, wE_nil, wE_cons, wE_tup, wE_lst, wE_cb, wE_lenSet, wE_meth, wE_tOfE, wE_tTru, wE_tAnd, wE_tOr, wE_tNot, wE_tYes, wE_if, wE_and, wE_or, wE_not, wE_oNo, wE_oSome, wE_sl, wE_iOf, wE_iSeq, gN_f, gT_f, gsNil_f, gsCons_f, wM_some, wM_newL, wM_if, List.getElem?_cons_zero, List.getElem?_cons_succ, List.set_cons_zero, List.set_cons_succ, List.map_cons, List.map_nil, List.cons_append, List.nil_append, Nat.reduceSub, List.replicate_succ, List.replicate_zero, List.length_cons, List.length_nil, Nat.reduceAdd, Option.some.injEq, exists_eq_left', exists_eq_left, D.bl.injEq, D.int.injEq, List.cons.injEq, and_true, true_and, exists_and_left, reduceCtorEq, false_and, and_false, exists_false, exists_const, if_true, if_false, Bool.false_eq_true, wipeE, ite_true, ite_false, exists_and_right, DL.eq_int, DL.ne_int, DL.add_int, DL.sub_int', DL.cmp_int, wM_mul, wM_fdiv, wM_mod, wM_pow, wM_shl, wM_shr, tyD_str, truD_bl, ex1, ex2, exists_eq', exists_eq, Option.bind_some, ty_lst k9])
      refine (next_spec s9 (by omega) (by omega)).imp ?_
      rintro _ M10 ⟨q3, rfl, q30, q31, s10, g10⟩
      obtain ⟨nn, _, hnn, en⟩ := atI_map (f := D.str) (l := ns) q30 q31
      have n10 := g10.get n9 l0s
      try (simp (config := { maxSteps := 1000000 }) only [wS_seq, wS_nx, wS_expr, wS_ret, wS_retN, wS_asg, wS_par2, wS_par3, wS_sub, wS_if, wS_for, wS_brk, wS_cont, wS_pass, after_nx, after_rt, after_bk, after_ct, wE_bind, wE_pure, wE_mem, wE_var, wE_call, wE_bin, wE_un, wE_nil, wE_cons, wE_tup, wE_lst, wE_cb, wE_lenSet, wE_meth, wE_tOfE, wE_tTru, wE_tAnd, wE_tOr, wE_tNot, wE_tYes, wE_if, wE_and, wE_or, wE_not, wE_oNo, wE_oSome, wE_sl, wE_iOf, wE_iSeq, gN_f, gT_f, gsNil_f, gsCons_f, wM_some, wM_newL, wM_if, List.getElem?_cons_zero, List.getElem?_cons_succ, List.set_cons_zero, List.set_cons_succ, List.map_cons, List.map_nil, List.cons_append, List.nil_append, Nat.reduceSub, List.replicate_succ, List.replicate_zero, List.length_cons, List.length_nil, Nat.reduceAdd, Option.some.injEq, exists_eq_left', exists_eq_left, D.bl.injEq, D.int.injEq, List.cons.injEq, and_true, true_and, exists_and_left, reduceCtorEq, false_and, and_false, exists_false, exists_const, if_true, if_false, Bool.false_eq_true, wipeE, ite_true, ite_false, exists_and_right, DL.eq_int, DL.ne_int, DL.add_int, DL.sub_int', DL.cmp_int, wM_mul, wM_fdiv, wM_mod, wM_pow, wM_shl, wM_shr, tyD_str, truD_bl, ex1, ex2, exists_eq', exists_eq, Option.bind_some, ix_ref n10 en])
      refine (next_spec s10 (by omega) (by omega)).imp ?_
      rintro _ M11 ⟨q4, rfl, q40, q41, s11, g11⟩
      obtain ⟨nw, _, hnw, ew⟩ := atI_map (f := D.str) (l := ns) q40 q41
      have n11 := g11.get n10 l0s
      try (simp (config := { maxSteps := 1000000 }) only [wS_seq, wS_nx, wS_expr, wS_ret, wS_retN, wS_asg, wS_par2, wS_par3, wS_sub, wS_if, wS_for, wS_brk, wS_cont, wS_pass, after_nx, after_rt, after_bk, after_ct, wE_bind, wE_pure, wE_mem, wE_var, wE_call, wE_bin, wE_un, wE_nil, wE_cons, wE_tup, wE_lst, wE_cb, wE_lenSet, wE_meth, wE_tOfE, wE_tTru, wE_tAnd, wE_tOr, wE_tNot, wE_tYes, wE_if, wE_and, wE_or, wE_not, wE_oNo, wE_oSome, wE_sl, wE_iOf, wE_iSeq, gN_f, gT_f, gsNil_f, gsCons_f, wM_some, wM_newL, wM_if, List.getElem?_cons_zero, List.getElem?_cons_succ, List.set_cons_zero, List.set_cons_succ, List.map_cons, List.map_nil, List.cons_append, List.nil_append, Nat.reduceSub, List.replicate_succ, List.replicate_zero, List.length_cons, List.length_nil, Nat.reduceAdd, Option.some.injEq, exists_eq_left', exists_eq_left, D.bl.injEq, D.int.injEq, List.cons.injEq, and_true, true_and, exists_and_left, reduceCtorEq, false_and, and_false, exists_false, exists_const, if_true, if_false, Bool.false_eq_true, wipeE, ite_true, ite_false, exists_and_right, DL.eq_int, DL.ne_int, DL.add_int, DL.sub_int', DL.cmp_int, wM_mul, wM_fdiv, wM_mod, wM_pow, wM_shl, wM_shr, tyD_str, truD_bl, ex1, ex2, exists_eq', exists_eq, Option.bind_some, ix_ref n11 ew])
      have g911 : Go [s, o] M9 M11 := g10.trans g11
      have w11 := g911.get w9 (by simp; omega)
      have k11 := g911.get k9 (by simp; omega)
      have kl : ks.length = us.length := by rw [← ku, List.length_map]
      have ha := fun v => append_ref (v := v) k11 (size_lt (by rw [List.length_map]; omega))
      try (simp (config := { maxSteps := 1000000 }) only [wS_seq, wS_nx, wS_expr, wS_ret, wS_retN, wS_asg, wS_par2, wS_par3, wS_sub, wS_if, wS_for, wS_brk, wS_cont, wS_pass, after_nx, after_rt, after_bk, after_ct, wE_bind, wE_pure, wE_mem, wE_var, wE_call, wE_bin, wE_un, wE_nil, wE_cons, wE_tup, wE_lst, wE_cb, wE_lenSet, wE_meth, wE_tOfE, wE_tTru, wE_tAnd, wE_tOr, wE_tNot, wE_tYes, wE_if, wE_and, wE_or, wE_not, wE_oNo, wE_oSome, wE_sl, wE_iOf, wE_iSeq, gN_f, gT_f, gsNil_f, gsCons_f, wM_some, wM_newL, wM_if, List.getElem?_cons_zero, List.getElem?_cons_succ, List.set_cons_zero, List.set_cons_succ, List.map_cons, List.map_nil, List.cons_append, List.nil_append, Nat.reduceSub, List.replicate_succ, List.replicate_zero, List.length_cons, List.length_nil, Nat.reduceAdd, Option.some.injEq, exists_eq_left', exists_eq_left, D.bl.injEq, D.int.injEq, List.cons.injEq, and_true, true_and, exists_and_left, reduceCtorEq, false_and, and_false, exists_false, exists_const, if_true, if_false, Bool.false_eq_true, wipeE, ite_true, ite_false, exists_and_right, DL.eq_int, DL.ne_int, DL.add_int, DL.sub_int', DL.cmp_int, wM_mul, wM_fdiv, wM_mod, wM_pow, wM_shl, wM_shr, tyD_str, truD_bl, ex1, ex2, exists_eq', exists_eq, Option.bind_some, ha])
      have g12 : Go [s, o, M2.length, M3.length] M4 (M11.set M3.length (.lst (ks.map Kd.d ++ [.tup [.str fc, .str nn, .str p.2, .str p.1, .str nw]]))) := (g7.trans ((g79.trans g911).mono (by simp))).trans (Go.set (by simp))
      refine ⟨size_le (by decide), ⟨us ++ [p], by simp; omega, ws.eraseIdx i.toNat, ?_, ks ++ [⟨fc, nn, p.2, p.1, nw⟩], by rw [List.map_append, ku]; rfl, ?_, ?_, get_ne ne1.2.2.2.2 w11, ?_⟩, s11.go (X := [M3.length]) (Go.set (by simp)) (by simp; omega) (by simp; omega), g12⟩
      · rw [List.append_assoc]
        exact (List.Perm.append_left us (erase_perm hp)).trans pm
      · intro k hk
        rcases List.mem_append.mp hk with hk | hk
        · exact km1 k hk
        · rw [List.mem_singleton] at hk
          subst hk
          have := pr_mem (pm.mem_iff.mp (List.mem_append_right us hpm))
          exact ⟨hnn, this.2, this.1, hnw⟩
      · intro k hk
        rcases List.mem_append.mp hk with hk | hk
        · exact kf k hk
        · rw [List.mem_singleton] at hk
          subst hk
          simp only [List.mem_cons, List.not_mem_nil, or_false] at hfm
          rcases hfm with rfl | rfl
          · exact ⟨show (("" : Str)).length ≤ 1 by decide +kernel, show ∀ c ∈ cl ("" : Str), 48 ≤ c ∧ c < 123 by decide +kernel⟩
          · refine ⟨Nat.le_refl _, fun c hc => ?_⟩
            have : c = c1 := by simpa [cl] using hc
            omega
      · rw [get_set k11, List.map_append]
        rfl
    · rintro ρ M5 ⟨⟨a, b, c, d, rfl⟩, ⟨us, ws, ks, uj, pm, ku, km1, kf, t5, k5⟩, s5, g5⟩
      refine ⟨rfl, ?_⟩
      rw [upto_nat, List.length_map, List.length_range] at uj
      try (simp (config := { maxSteps := 1000000 }) only [wS_seq, wS_nx, wS_expr, wS_ret, wS_retN, wS_asg, wS_par2, wS_par3, wS_sub, wS_if, wS_for, wS_brk, wS_cont, wS_pass, after_nx, after_rt, after_bk, after_ct, wE_bind, wE_pure, wE_mem, wE_var, wE_call, wE_bin, wE_un, wE_nil, wE_cons, wE_tup, wE_lst, wE_cb, wE_lenSet, wE_meth, wE_tOfE, wE_tTru, wE_tAnd, wE_tOr, wE_tNot, wE_tYes, wE_if, wE_and, wE_or, wE_not, wE_oNo, wE_oSome, wE_sl, wE_iOf, wE_iSeq, gN_f, gT_f, gsNil_f, gsCons_f, wM_some, wM_newL, wM_if, List.getElem?_cons_zero, List.getElem?_cons_succ, List.set_cons_zero, List.set_cons_succ, List.map_cons, List.map_nil, List.cons_append, List.nil_append, Nat.reduceSub, List.replicate_succ, List.replicate_zero, List.length_cons, List.length_nil, Nat.reduceAdd, Option.some.injEq, exists_eq_left', exists_eq_left, D.bl.injEq, D.int.injEq, List.cons.injEq, and_true, true_and, exists_and_left, reduceCtorEq, false_and, and_false, exists_false, exists_const, if_true, if_false, Bool.false_eq_true, wipeE, ite_true, ite_false, exists_and_right, DL.eq_int, DL.ne_int, DL.add_int, DL.sub_int', DL.cmp_int, wM_mul, wM_fdiv, wM_mod, wM_pow, wM_shl, wM_shr, tyD_str, truD_bl, ex1, ex2, exists_eq', exists_eq, Option.bind_some])
      refine (next_spec s5 h1 (by omega)).imp ?_
      rintro _ M6 ⟨wd, rfl, w0, w1, s6, g6⟩
      try (simp (config := { maxSteps := 1000000 }) only [wS_seq, wS_nx, wS_expr, wS_ret, wS_retN, wS_asg, wS_par2, wS_par3, wS_sub, wS_if, wS_for, wS_brk, wS_cont, wS_pass, after_nx, after_rt, after_bk, after_ct, wE_bind, wE_pure, wE_mem, wE_var, wE_call, wE_bin, wE_un, wE_nil, wE_cons, wE_tup, wE_lst, wE_cb, wE_lenSet, wE_meth, wE_tOfE, wE_tTru, wE_tAnd, wE_tOr, wE_tNot, wE_tYes, wE_if, wE_and, wE_or, wE_not, wE_oNo, wE_oSome, wE_sl, wE_iOf, wE_iSeq, gN_f, gT_f, gsNil_f, gsCons_f, wM_some, wM_newL, wM_if, List.getElem?_cons_zero, List.getElem?_cons_succ, List.set_cons_zero, List.set_cons_succ, List.map_cons, List.map_nil, List.cons_append, List.nil_append, Nat.reduceSub, List.replicate_succ, List.replicate_zero, List.length_cons, List.length_nil, Nat.reduceAdd, Option.some.injEq, exists_eq_left', exists_eq_left, D.bl.injEq, D.int.injEq, List.cons.injEq, and_true, true_and, exists_and_left, reduceCtorEq, false_and, and_false, exists_false, exists_const, if_true, if_false, Bool.false_eq_true, wipeE, ite_true, ite_false, exists_and_right, DL.eq_int, DL.ne_int, DL.add_int, DL.sub_int', DL.cmp_int, wM_mul, wM_fdiv, wM_mod, wM_pow, wM_shl, wM_shr, tyD_str, truD_bl, ex1, ex2, exists_eq', exists_eq, Option.bind_some])
      refine (next_spec s6 h1 (by omega)).imp ?_
      rintro _ M7 ⟨ht, rfl, h0, h1', s7, g7⟩
      try (simp (config := { maxSteps := 1000000 }) only [wS_seq, wS_nx, wS_expr, wS_ret, wS_retN, wS_asg, wS_par2, wS_par3, wS_sub, wS_if, wS_for, wS_brk, wS_cont, wS_pass, after_nx, after_rt, after_bk, after_ct, wE_bind, wE_pure, wE_mem, wE_var, wE_call, wE_bin, wE_un, wE_nil, wE_cons, wE_tup, wE_lst, wE_cb, wE_lenSet, wE_meth, wE_tOfE, wE_tTru, wE_tAnd, wE_tOr, wE_tNot, wE_tYes, wE_if, wE_and, wE_or, wE_not, wE_oNo, wE_oSome, wE_sl, wE_iOf, wE_iSeq, gN_f, gT_f, gsNil_f, gsCons_f, wM_some, wM_newL, wM_if, List.getElem?_cons_zero, List.getElem?_cons_succ, List.set_cons_zero, List.set_cons_succ, List.map_cons, List.map_nil, List.cons_append, List.nil_append, Nat.reduceSub, List.replicate_succ, List.replicate_zero, List.length_cons, List.length_nil, Nat.reduceAdd, Option.some.injEq, exists_eq_left', exists_eq_left, D.bl.injEq, D.int.injEq, List.cons.injEq, and_true, true_and, exists_and_left, reduceCtorEq, false_and, and_false, exists_false, exists_const, if_true, if_false, Bool.false_eq_true, wipeE, ite_true, ite_false, exists_and_right, DL.eq_int, DL.ne_int, DL.add_int, DL.sub_int', DL.cmp_int, wM_mul, wM_fdiv, wM_mod, wM_pow, wM_shl, wM_shr, tyD_str, truD_bl, ex1, ex2, exists_eq', exists_eq, Option.bind_some])
      refine ⟨size_le (by decide), ?_⟩
      try (simp (config := { maxSteps := 1000000 }) only [wS_seq, wS_nx, wS_expr, wS_ret, wS_retN, wS_asg, wS_par2, wS_par3, wS_sub, wS_if, wS_for, wS_brk, wS_cont, wS_pass, after_nx, after_rt, after_bk, after_ct, wE_bind, wE_pure, wE_mem, wE_var, wE_call, wE_bin, wE_un, wE_nil, wE_cons, wE_tup, wE_lst, wE_cb, wE_lenSet, wE_meth, wE_tOfE, wE_tTru, wE_tAnd, wE_tOr, wE_tNot, wE_tYes, wE_if, wE_and, wE_or, wE_not, wE_oNo, wE_oSome, wE_sl, wE_iOf, wE_iSeq, gN_f, gT_f, gsNil_f, gsCons_f, wM_some, wM_newL, wM_if, List.getElem?_cons_zero, List.getElem?_cons_succ, List.set_cons_zero, List.set_cons_succ, List.map_cons, List.map_nil, List.cons_append, List.nil_append, Nat.reduceSub, List.replicate_succ, List.replicate_zero, List.length_cons, List.length_nil, Nat.reduceAdd, Option.some.injEq, exists_eq_left', exists_eq_left, D.bl.injEq, D.int.injEq, List.cons.injEq, and_true, true_and, exists_and_left, reduceCtorEq, false_and, and_false, exists_false, exists_const, if_true, if_false, Bool.false_eq_true, wipeE, ite_true, ite_false, exists_and_right, DL.eq_int, DL.ne_int, DL.add_int, DL.sub_int', DL.cmp_int, wM_mul, wM_fdiv, wM_mod, wM_pow, wM_shl, wM_shr, tyD_str, truD_bl, ex1, ex2, exists_eq', exists_eq, Option.bind_some, rng1_ok (show -(2 ^ 62) ≤ 1 + wd ∧ 1 + wd < 2 ^ 62 by omega), rng1_ok (show -(2 ^ 62) ≤ 1 + ht ∧ 1 + ht < 2 ^ 62 by omega)])
      have hs4 := s4.lt
      have hs7 := s7.lt
      have len5 := g5.le
      have kl : ks.length = us.length := by rw [← ku, List.length_map]
      have g57 : Go [s, o] M5 M7 := g6.trans g7
      have k7 := g57.get k5 (by simp; omega)
      have n7 := g57.get (g5.get n4 (by simp at l0s ⊢; omega)) l0s
      have lt7 := lt_of k7
      generalize hW : 1 + wd = W at *
      generalize hH : 1 + ht = H at *
      refine wp_for0 (fun j ρ M' => (∃ a b c d x y, ρ = [some (.ref s), some (.int most), some (.int km), some (.ref l0), some (.int (ns.length : Nat)), some (.ref M2.length), a, some (.str SGN), some (.ref M3.length), b, c, d, some (.int W), some (.int H), some (.ref M7.length), x, y, none]) ∧ (∃ sd : List (Int × Int × Int), sd.map (fun t => (t.1, t.2.1)) = (List.range j).flatMap (frameCol W H) ∧ sd.length ≤ j * 12 ∧ (∀ t ∈ sd, 0 ≤ t.2.2 ∧ t.2.2 < ks.length) ∧ M'[M7.length]? = some (.lst (sd.map sdD))) ∧ St s o M' ∧ Go [s, o] M7 M') ?_ ?_ ?_
      · exact ⟨⟨_, _, _, _, _, _, rfl⟩, ⟨[], rfl, by simp, by simp, get_new⟩, s7.app, Go.app⟩
      · rintro j x ρ M8 hj ⟨⟨a, b, c, d, x, y, rfl⟩, ⟨sd, sm, sl, sk, e8⟩, s8, g8⟩
        obtain ⟨rfl, jl⟩ := upto_at hj
        refine ⟨rfl, _, rfl, ?_⟩
        try (simp (config := { maxSteps := 1000000 }) only [wS_seq, wS_nx, wS_expr, wS_ret, wS_retN, wS_asg, wS_par2, wS_par3, wS_sub, wS_if, wS_for, wS_brk, wS_cont, wS_pass, after_nx, after_rt, after_bk, after_ct, wE_bind, wE_pure, wE_mem, wE_var, wE_call, wE_bin, wE_un, wE_nil, wE_cons, wE_tup, wE_lst, wE_cb, wE_lenSet, wE_meth, wE_tOfE, wE_tTru, wE_tAnd, wE_tOr, wE_tNot, wE_tYes, wE_if, wE_and, wE_or, wE_not, wE_oNo, wE_oSome, wE_sl, wE_iOf, wE_iSeq, gN_f, gT_f, gsNil_f, gsCons_f, wM_some, wM_newL, wM_if, List.getElem?_cons_zero, List.getElem?_cons_succ, List.set_cons_zero, List.set_cons_succ, List.map_cons, List.map_nil, List.cons_append, List.nil_append, Nat.reduceSub, List.replicate_succ, List.replicate_zero, List.length_cons, List.length_nil, Nat.reduceAdd, Option.some.injEq, exists_eq_left', exists_eq_left, D.bl.injEq, D.int.injEq, List.cons.injEq, and_true, true_and, exists_and_left, reduceCtorEq, false_and, and_false, exists_false, exists_const, if_true, if_false, Bool.false_eq_true, wipeE, ite_true, ite_false, exists_and_right, DL.eq_int, DL.ne_int, DL.add_int, DL.sub_int', DL.cmp_int, wM_mul, wM_fdiv, wM_mod, wM_pow, wM_shl, wM_shr, tyD_str, truD_bl, ex1, ex2, exists_eq', exists_eq, Option.bind_some, rng1_ok (show -(2 ^ 62) ≤ H ∧ H < 2 ^ 62 by omega)])
        refine wp_for0 (fun i ρ M' => (∃ a b c d y, ρ = [some (.ref s), some (.int most), some (.int km), some (.ref l0), some (.int (ns.length : Nat)), some (.ref M2.length), a, some (.str SGN), some (.ref M3.length), b, c, d, some (.int W), some (.int H), some (.ref M7.length), some (.int (j : Nat)), y, none]) ∧ (∃ sd : List (Int × Int × Int), sd.map (fun t => (t.1, t.2.1)) = (List.range j).flatMap (frameCol W H) ++ ((List.range i).filter fun y => onFrame W j y).map (fun (y : Nat) => ((j : Int), (y : Int))) ∧ sd.length ≤ j * 12 + i ∧ (∀ t ∈ sd, 0 ≤ t.2.2 ∧ t.2.2 < ks.length) ∧ M'[M7.length]? = some (.lst (sd.map sdD))) ∧ St s o M' ∧ Go [s, o] M7 M') ?_ ?_ ?_
        · exact ⟨⟨_, _, _, _, _, rfl⟩, ⟨sd, by rw [sm]; simp, by omega, sk, e8⟩, s8, g8⟩
        · rintro i x ρ M9 hi ⟨⟨a, b, c, d, y, rfl⟩, ⟨sd, sm, sl, sk, e9⟩, s9, g9⟩
          obtain ⟨rfl, il⟩ := upto_at hi
          refine ⟨rfl, _, rfl, ?_⟩
          have k9 := g9.get k7 (by simp; omega)
          have fl : ((List.range (i + 1)).filter fun y => onFrame W j y) = ((List.range i).filter fun y => onFrame W j y) ++ if onFrame W j i = true then [i] else [] := by
            rw [List.range_succ, List.filter_append]
            congr 1
            by_cases q : onFrame W j i = true <;> simp [q]
          have go : onFrame W j i = true → wF F_law_next [.ref s, .int (ks.length : Nat)] M9 fun x M1 => 3 ≤ sizeLine ∧ wM (mAppend (.ref M7.length) [.tup [.int (j : Nat), .int (i : Nat), x]] M1) fun x M1 => (∃ sd : List (Int × Int × Int), sd.map (fun t => (t.1, t.2.1)) = (List.range j).flatMap (frameCol W H) ++ ((List.range (i + 1)).filter fun y => onFrame W j y).map (fun (y : Nat) => ((j : Int), (y : Int))) ∧ sd.length ≤ j * 12 + (i + 1) ∧ (∀ t ∈ sd, 0 ≤ t.2.2 ∧ t.2.2 < ks.length) ∧ M1[M7.length]? = some (.lst (sd.map sdD))) ∧ St s o M1 ∧ Go [s, o] M7 M1 := fun q => by
            refine (next_spec s9 (by omega) (by omega)).imp ?_
            rintro _ M10 ⟨r, rfl, r0, r1, s10, g10⟩
            have e10 := g10.get e9 (by simp; omega)
            refine ⟨size_le (by decide), ?_⟩
            rw [append_ref e10 (size_lt (by rw [List.length_map]; omega)), wM_some]
            refine ⟨⟨sd ++ [((j : Int), (i : Int), r)], ?_, by simp; omega, ?_, by rw [get_set e10, List.map_append]; rfl⟩, s7.setN s10 (Nat.le_refl _), (g9.trans g10).setN (Nat.le_refl _)⟩
            · rw [fl, q, List.map_append, sm]
              simp
            · intro t ht
              rcases List.mem_append.mp ht with ht | ht
              · exact sk t ht
              · rw [List.mem_singleton] at ht
                subst ht
                exact ⟨r0, r1⟩
          try (simp (config := { maxSteps := 1000000 }) only [wS_seq, wS_nx, wS_expr, wS_ret, wS_retN, wS_asg, wS_par2, wS_par3, wS_sub, wS_if, wS_for, wS_brk, wS_cont, wS_pass, after_nx, after_rt, after_bk, after_ct, wE_bind, wE_pure, wE_mem, wE_var, wE_call, wE_bin, wE_un, wE_nil, wE_cons, wE_tup, wE_lst, wE_cb, wE_lenSet, wE_meth, wE_tOfE, wE_tTru, wE_tAnd, wE_tOr, wE_tNot, wE_tYes, wE_if, wE_and, wE_or, wE_not, wE_oNo, wE_oSome, wE_sl, wE_iOf, wE_iSeq, gN_f, gT_f, gsNil_f, gsCons_f, wM_some, wM_newL, wM_if, List.getElem?_cons_zero, List.getElem?_cons_succ, List.set_cons_zero, List.set_cons_succ, List.map_cons, List.map_nil, List.cons_append, List.nil_append, Nat.reduceSub, List.replicate_succ, List.replicate_zero, List.length_cons, List.length_nil, Nat.reduceAdd, Option.some.injEq, exists_eq_left', exists_eq_left, D.bl.injEq, D.int.injEq, List.cons.injEq, and_true, true_and, exists_and_left, reduceCtorEq, false_and, and_false, exists_false, exists_const, if_true, if_false, Bool.false_eq_true, wipeE, ite_true, ite_false, exists_and_right, DL.eq_int, DL.ne_int, DL.add_int, DL.sub_int', DL.cmp_int, wM_mul, wM_fdiv, wM_mod, wM_pow, wM_shl, wM_shr, tyD_str, truD_bl, ex1, ex2, exists_eq', exists_eq, Option.bind_some, ty_lst e9, len_ref k9, List.length_map])
          by_cases q1 : ((i : Nat) : Int) = 0
          · rw [if_pos (decide_eq_true q1)]
            exact go (by unfold onFrame; rw [decide_eq_true q1]; rfl)
          · rw [if_neg (by rw [decide_eq_false q1]; exact Bool.false_ne_true)]
            by_cases q2 : ((j : Nat) : Int) = W - 1
            · rw [if_pos (decide_eq_true q2)]
              exact go (by unfold onFrame; rw [decide_eq_true q2, Bool.or_true])
            · rw [if_neg (by rw [decide_eq_false q2]; exact Bool.false_ne_true)]
              refine ⟨⟨sd, ?_, by omega, sk, e9⟩, s9, g9⟩
              have : onFrame W j i = false := by unfold onFrame; rw [decide_eq_false q1, decide_eq_false q2]; rfl
              rw [fl, this, sm]
              simp
        · rintro ρ M9 ⟨⟨a, b, c, d, y, rfl⟩, ⟨sd, sm, sl, sk, e9⟩, s9, g9⟩
          rw [upto_nat, List.length_map, List.length_range] at sm sl
          refine ⟨rfl, ⟨_, _, _, _, _, _, rfl⟩, ⟨sd, ?_, by omega, sk, e9⟩, s9, g9⟩
          rw [sm, List.range_succ, List.flatMap_append]
          simp [frameCol]
      · rintro ρ M8 ⟨⟨a, b, c, d, x, y, rfl⟩, ⟨sd, sm, sl, sk, e8⟩, s8, g8⟩
        rw [upto_nat, List.length_map, List.length_range] at sm sl
        refine ⟨rfl, ?_⟩
        have n8 := g8.get n7 l0s
        have k8 := g8.get k7 (by simp; omega)
        have wl : W.toNat ≤ 12 := by omega
        try (simp (config := { maxSteps := 1000000 }) only [wS_seq, wS_nx, wS_expr, wS_ret, wS_retN, wS_asg, wS_par2, wS_par3, wS_sub, wS_if, wS_for, wS_brk, wS_cont, wS_pass, after_nx, after_rt, after_bk, after_ct, wE_bind, wE_pure, wE_mem, wE_var, wE_call, wE_bin, wE_un, wE_nil, wE_cons, wE_tup, wE_lst, wE_cb, wE_lenSet, wE_meth, wE_tOfE, wE_tTru, wE_tAnd, wE_tOr, wE_tNot, wE_tYes, wE_if, wE_and, wE_or, wE_not, wE_oNo, wE_oSome, wE_sl, wE_iOf, wE_iSeq, gN_f, gT_f, gsNil_f, gsCons_f, wM_some, wM_newL, wM_if, List.getElem?_cons_zero, List.getElem?_cons_succ, List.set_cons_zero, List.set_cons_succ, List.map_cons, List.map_nil, List.cons_append, List.nil_append, Nat.reduceSub, List.replicate_succ, List.replicate_zero, List.length_cons, List.length_nil, Nat.reduceAdd, Option.some.injEq, exists_eq_left', exists_eq_left, D.bl.injEq, D.int.injEq, List.cons.injEq, and_true, true_and, exists_and_left, reduceCtorEq, false_and, and_false, exists_false, exists_const, if_true, if_false, Bool.false_eq_true, wipeE, ite_true, ite_false, exists_and_right, DL.eq_int, DL.ne_int, DL.add_int, DL.sub_int', DL.cmp_int, wM_mul, wM_fdiv, wM_mod, wM_pow, wM_shl, wM_shr, tyD_str, truD_bl, ex1, ex2, exists_eq', exists_eq, Option.bind_some])
        refine lc_all (fun d => .tup [d, .int 1]) ?_
        try (simp (config := { maxSteps := 1000000 }) only [wS_seq, wS_nx, wS_expr, wS_ret, wS_retN, wS_asg, wS_par2, wS_par3, wS_sub, wS_if, wS_for, wS_brk, wS_cont, wS_pass, after_nx, after_rt, after_bk, after_ct, wE_bind, wE_pure, wE_mem, wE_var, wE_call, wE_bin, wE_un, wE_nil, wE_cons, wE_tup, wE_lst, wE_cb, wE_lenSet, wE_meth, wE_tOfE, wE_tTru, wE_tAnd, wE_tOr, wE_tNot, wE_tYes, wE_if, wE_and, wE_or, wE_not, wE_oNo, wE_oSome, wE_sl, wE_iOf, wE_iSeq, gN_f, gT_f, gsNil_f, gsCons_f, wM_some, wM_newL, wM_if, List.getElem?_cons_zero, List.getElem?_cons_succ, List.set_cons_zero, List.set_cons_succ, List.map_cons, List.map_nil, List.cons_append, List.nil_append, Nat.reduceSub, List.replicate_succ, List.replicate_zero, List.length_cons, List.length_nil, Nat.reduceAdd, Option.some.injEq, exists_eq_left', exists_eq_left, D.bl.injEq, D.int.injEq, List.cons.injEq, and_true, true_and, exists_and_left, reduceCtorEq, false_and, and_false, exists_false, exists_const, if_true, if_false, Bool.false_eq_true, wipeE, ite_true, ite_false, exists_and_right, DL.eq_int, DL.ne_int, DL.add_int, DL.sub_int', DL.cmp_int, wM_mul, wM_fdiv, wM_mod, wM_pow, wM_shl, wM_shr, tyD_str, truD_bl, ex1, ex2, exists_eq', exists_eq, Option.bind_some, itSeq_ref n8])
        refine ⟨fun acc => lstIs_app n8, by rw [List.length_map]; omega, fun _ _ _ => size_le (by decide), ?_⟩
        rw [tup_ref get_new, wM_some, tup_ref (get_app k8), wM_some]
        refine ⟨size_le (by decide), size_le (by decide), ?_⟩
        rw [tup_ref (get_app e8), wM_some]
        have hG : Go [s, o] M (M8 ++ [.lst ((ns.map D.str).map fun d => .tup [d, .int 1])]) := by
          have a1 : Go [s, o] M M3 := (g1.trans g2).trans g3
          have a2 : Go [s, o] M M4 := a1.trans (Go.app.trans g4)
          have a3 : Go [s, o, M2.length, M3.length] M M8 := (a2.mono (by simp)).trans (g5.trans ((g57.trans g8).mono (by simp)))
          have b1 := g1.le
          have b2 := g2.le
          exact (a3.less (by simp; omega)).appN
        refine ⟨size_le (by decide), ⟨2, ns.map fun x => (x, 1), ks, W, H, sd⟩, ?_, ?_, s8.app, hG⟩
        · unfold Bed.d Bed.ho Bed.fl
          simp only [List.map_map]
          rfl
        · refine ⟨rfl, ⟨ns, rfl, by omega, by omega, hn.nd, hn.ok, hn.up, km1⟩, ⟨?_, ?_⟩, kf, ?_, ⟨(by show 0 < W; omega), (by show W ≤ most; omega)⟩, ⟨(by show 0 < H; omega), (by show H ≤ most; omega)⟩, sm, sk⟩
          · show 0 < ks.length
            omega
          · show (ks.length : Int) ≤ km
            omega
          · show (ks.map fun k => (k.s, k.e)).Nodup
            rw [ku]
            have := (pm.nodup_iff).mpr (pr_nodup hn.nd hn.nd)
            exact (List.nodup_append.mp this).1
end G

namespace G
open PySem PySem.Spec PyProof.Rows L2 DL
def LtP (p q : Int × Int) : Prop := p.1 < q.1 ∨ (p.1 = q.1 ∧ p.2 < q.2)
def plc (t : Int × Int × Int) : Int × Int := (t.1, t.2.1)
structure KdOk (k : Kd) : Prop where
  f : PyData.strOk k.f = true
  n : PyData.strOk k.n = true
  e : PyData.strOk k.e = true
  s : PyData.strOk k.s = true
  w : PyData.strOk k.w = true
/-- still a bed -/
structure WB (n : Nat) (b : Bed) : Prop where
  st : 0 < b.st.length ∧ b.st.length ≤ 13
  so : ∀ p ∈ b.st, PyData.strOk p.1 = true
  ks : 0 < b.ks.length ∧ b.ks.length ≤ 16 + n
  ko : ∀ k ∈ b.ks, KdOk k
  w : 0 < b.w ∧ b.w ≤ 12
  h : 0 < b.h ∧ b.h ≤ 12
  sl : b.sd.length ≤ 144 + n
  up : b.sd.Pairwise fun t u => LtP (plc t) (plc u)
  fl : ∀ t ∈ b.sd, 0 ≤ t.1 ∧ t.1 < b.w ∧ 0 ≤ t.2.1 ∧ t.2.1 < b.h
theorem with_spec {xs : List D} {i : Int} {v : D} {M : Mem} (h0 : 0 ≤ i) (h1 : i < xs.length) (h2 : xs.length ≤ 1000) : wF F_law_with [.tup xs, .int i, v] M fun d M' => d = .tup (xs.set i.toNat v) ∧ M' = M := by
  refine wF_fn rfl ?_
  unfold m_law_with
  have e0 : ((i.toNat : Nat) : Int) = i := Int.toNat_of_nonneg h0
  have e1 : opSl (.tup xs) none (some i) M = some (.tup (xs.take i.toNat), M) := by rw [sl_tup', cutD_take e0.symm (by omega)]
  have e2 : opSl (.tup xs) (some (i + 1)) none M = some (.tup (xs.drop (i.toNat + 1)), M) := by rw [sl_tup', cutD_drop (j := i.toNat + 1) (by omega) (by omega)]
  have e3 : opAdd (.tup (xs.take i.toNat)) (.tup [v]) M = some (.tup (xs.take i.toNat ++ [v]), M) := add_tup' (by rw [List.length_take]; simp; omega)
  have e4 : opAdd (.tup (xs.take i.toNat ++ [v])) (.tup (xs.drop (i.toNat + 1))) M = some (.tup (xs.take i.toNat ++ [v] ++ xs.drop (i.toNat + 1)), M) := add_tup' (by rw [List.length_append, List.length_take, List.length_drop]; simp; omega)
  try (simp (config := { maxSteps := 1000000 }) only [wS_seq, wS_nx, wS_expr, wS_ret, wS_retN, wS_asg, wS_par2, wS_par3, wS_sub, wS_if, wS_for, wS_brk, wS_cont, wS_pass, after_nx, after_rt, after_bk, after_ct, wE_bind, wE_pure, wE_mem, wE_var, wE_call, wE_bin, wE_un, wE_nil, wE_cons, wE_tup, wE_lst, wE_cb, wE_lenSet, wE_meth, wE_tOfE, wE_tTru, wE_tAnd, wE_tOr, wE_tNot, wE_tYes, wE_if, wE_and, wE_or, wE_not, wE_oNo, wE_oSome, wE_sl, wE_iOf, wE_iSeq, gN_f, gT_f, gsNil_f, gsCons_f, wM_some, wM_newL, wM_if, List.getElem?_cons_zero, List.getElem?_cons_succ, List.set_cons_zero, List.set_cons_succ, List.map_cons, List.map_nil, List.cons_append, List.nil_append, Nat.reduceSub, List.replicate_succ, List.replicate_zero, List.length_cons, List.length_nil, Nat.reduceAdd, Option.some.injEq, exists_eq_left', exists_eq_left, D.bl.injEq, D.int.injEq, List.cons.injEq, and_true, true_and, exists_and_left, reduceCtorEq, false_and, and_false, exists_false, exists_const, if_true, if_false, Bool.false_eq_true, wipeE, ite_true, ite_false, exists_and_right, DL.eq_int, DL.ne_int, DL.add_int, DL.sub_int', DL.cmp_int, wM_mul, wM_fdiv, wM_mod, wM_pow, wM_shl, wM_shr, tyD_str, truD_bl, ex1, ex2, exists_eq', exists_eq, Option.bind_some, e1, e2, e3, e4])
  refine ⟨size_le (by decide), ?_⟩
  rw [List.set_eq_take_append_cons_drop, if_pos (by omega)]
  simp
theorem WB.mono {n : Nat} {b : Bed} (h : WB n b) : WB (n + 1) b := ⟨h.st, h.so, ⟨h.ks.1, by have := h.ks.2; omega⟩, h.ko, h.w, h.h, by have := h.sl; omega, h.up, h.fl⟩
theorem WB.kst {n : Nat} {b : Bed} (h : WB n b) {ks : List Kd} (h1 : 0 < ks.length) (h2 : ks.length ≤ 16 + (n + 1)) (h3 : ∀ k ∈ ks, KdOk k) : WB (n + 1) { b with ks := ks } := ⟨h.st, h.so, ⟨h1, h2⟩, h3, h.w, h.h, h.mono.sl, h.up, h.fl⟩
theorem WB.sst {n : Nat} {b : Bed} (h : WB n b) {st : List (Str × Int)} (h1 : st.length = b.st.length) (h3 : ∀ p ∈ st, PyData.strOk p.1 = true) : WB (n + 1) { b with st := st } := ⟨(by show 0 < st.length ∧ st.length ≤ 13; rw [h1]; exact h.st), h3, h.mono.ks, h.ko, h.w, h.h, h.mono.sl, h.up, h.fl⟩
theorem kd_set {k : Kd} (h : KdOk k) {x : Str} (hx : PyData.strOk x = true) {i : Int} (h0 : 0 ≤ i) (h1 : i < 4) : ∃ k' : Kd, [D.str k.f, .str k.n, .str k.e, .str k.s, .str k.w].set (1 + i).toNat (.str x) = [.str k'.f, .str k'.n, .str k'.e, .str k'.s, .str k'.w] ∧ KdOk k' := by
  rcases (by omega : i = 0 ∨ i = 1 ∨ i = 2 ∨ i = 3) with rfl | rfl | rfl | rfl
  · exact ⟨{ k with n := x }, rfl, ⟨h.f, hx, h.e, h.s, h.w⟩⟩
  · exact ⟨{ k with e := x }, rfl, ⟨h.f, h.n, hx, h.s, h.w⟩⟩
  · exact ⟨{ k with s := x }, rfl, ⟨h.f, h.n, h.e, hx, h.w⟩⟩
  · exact ⟨{ k with w := x }, rfl, ⟨h.f, h.n, h.e, h.s, hx⟩⟩
def HPost (s o n : Nat) (b : Bed) (M : Mem) (d : D) (M' : Mem) : Prop := ∃ b' : Bed, d = b'.ho ∧ WB (n + 1) b' ∧ b'.w = b.w ∧ b'.h = b.h ∧ b'.sd = b.sd ∧ St s o M' ∧ Go [s, o] M M'
theorem set_map {α β : Type} (f : α → β) (l : List α) (i : Nat) (x : α) : (l.map f).set i (f x) = (l.set i x).map f := by rw [List.map_set]
theorem mem_set {α : Type} {l : List α} {i : Nat} {x y : α} (h : y ∈ l.set i x) : y ∈ l ∨ y = x := List.mem_or_eq_of_mem_set h
theorem ho_otherwise {s o n : Nat} {b : Bed} {M : Mem} (h : St s o M) (hb : WB n b) (hn : n ≤ 10) : wF F_law_house_otherwise [.ref s, b.ho] M (HPost s o n b M) := by
  refine wF_fn rfl ?_
  unfold m_law_house_otherwise Bed.ho
  have kl := hb.ks
  have sl := hb.st
  try (simp (config := { maxSteps := 1000000 }) only [wS_seq, wS_nx, wS_expr, wS_ret, wS_retN, wS_asg, wS_par2, wS_par3, wS_sub, wS_if, wS_for, wS_brk, wS_cont, wS_pass, after_nx, after_rt, after_bk, after_ct, wE_bind, wE_pure, wE_mem, wE_var, wE_call, wE_bin, wE_un, wE_nil, wE_cons, wE_tup, wE_lst, wE_cb, wE_lenSet, wE_meth, wE_tOfE, wE_tTru, wE_tAnd, wE_tOr, wE_tNot, wE_tYes, wE_if, wE_and, wE_or, wE_not, wE_oNo, wE_oSome, wE_sl, wE_iOf, wE_iSeq, gN_f, gT_f, gsNil_f, gsCons_f, wM_some, wM_newL, wM_if, List.getElem?_cons_zero, List.getElem?_cons_succ, List.set_cons_zero, List.set_cons_succ, List.map_cons, List.map_nil, List.cons_append, List.nil_append, Nat.reduceSub, List.replicate_succ, List.replicate_zero, List.length_cons, List.length_nil, Nat.reduceAdd, Option.some.injEq, exists_eq_left', exists_eq_left, D.bl.injEq, D.int.injEq, List.cons.injEq, and_true, true_and, exists_and_left, reduceCtorEq, false_and, and_false, exists_false, exists_const, if_true, if_false, Bool.false_eq_true, wipeE, ite_true, ite_false, exists_and_right, DL.eq_int, DL.ne_int, DL.add_int, DL.sub_int', DL.cmp_int, wM_mul, wM_fdiv, wM_mod, wM_pow, wM_shl, wM_shr, tyD_str, truD_bl, ex1, ex2, exists_eq', exists_eq, Option.bind_some])
  refine (next_spec h (by decide) (by decide)).imp ?_
  rintro _ M1 ⟨way, rfl, w0, w1, s1, g1⟩
  try (simp (config := { maxSteps := 1000000 }) only [wS_seq, wS_nx, wS_expr, wS_ret, wS_retN, wS_asg, wS_par2, wS_par3, wS_sub, wS_if, wS_for, wS_brk, wS_cont, wS_pass, after_nx, after_rt, after_bk, after_ct, wE_bind, wE_pure, wE_mem, wE_var, wE_call, wE_bin, wE_un, wE_nil, wE_cons, wE_tup, wE_lst, wE_cb, wE_lenSet, wE_meth, wE_tOfE, wE_tTru, wE_tAnd, wE_tOr, wE_tNot, wE_tYes, wE_if, wE_and, wE_or, wE_not, wE_oNo, wE_oSome, wE_sl, wE_iOf, wE_iSeq, gN_f, gT_f, gsNil_f, gsCons_f, wM_some, wM_newL, wM_if, List.getElem?_cons_zero, List.getElem?_cons_succ, List.set_cons_zero, List.set_cons_succ, List.map_cons, List.map_nil, List.cons_append, List.nil_append, Nat.reduceSub, List.replicate_succ, List.replicate_zero, List.length_cons, List.length_nil, Nat.reduceAdd, Option.some.injEq, exists_eq_left', exists_eq_left, D.bl.injEq, D.int.injEq, List.cons.injEq, and_true, true_and, exists_and_left, reduceCtorEq, false_and, and_false, exists_false, exists_const, if_true, if_false, Bool.false_eq_true, wipeE, ite_true, ite_false, exists_and_right, DL.eq_int, DL.ne_int, DL.add_int, DL.sub_int', DL.cmp_int, wM_mul, wM_fdiv, wM_mod, wM_pow, wM_shl, wM_shr, tyD_str, truD_bl, ex1, ex2, exists_eq', exists_eq, Option.bind_some, len_tup, List.length_map])
  refine (next_spec s1 (by omega) (by omega)).imp ?_
  rintro _ M2 ⟨at_, rfl, a0, a1, s2, g2⟩
  obtain ⟨k, hk, hkm, ek⟩ := atI_map (f := Kd.d) (l := b.ks) a0 a1
  have hko := hb.ko k hkm
  by_cases q : way = 0
  · try (simp (config := { maxSteps := 1000000 }) only [wS_seq, wS_nx, wS_expr, wS_ret, wS_retN, wS_asg, wS_par2, wS_par3, wS_sub, wS_if, wS_for, wS_brk, wS_cont, wS_pass, after_nx, after_rt, after_bk, after_ct, wE_bind, wE_pure, wE_mem, wE_var, wE_call, wE_bin, wE_un, wE_nil, wE_cons, wE_tup, wE_lst, wE_cb, wE_lenSet, wE_meth, wE_tOfE, wE_tTru, wE_tAnd, wE_tOr, wE_tNot, wE_tYes, wE_if, wE_and, wE_or, wE_not, wE_oNo, wE_oSome, wE_sl, wE_iOf, wE_iSeq, gN_f, gT_f, gsNil_f, gsCons_f, wM_some, wM_newL, wM_if, List.getElem?_cons_zero, List.getElem?_cons_succ, List.set_cons_zero, List.set_cons_succ, List.map_cons, List.map_nil, List.cons_append, List.nil_append, Nat.reduceSub, List.replicate_succ, List.replicate_zero, List.length_cons, List.length_nil, Nat.reduceAdd, Option.some.injEq, exists_eq_left', exists_eq_left, D.bl.injEq, D.int.injEq, List.cons.injEq, and_true, true_and, exists_and_left, reduceCtorEq, false_and, and_false, exists_false, exists_const, if_true, if_false, Bool.false_eq_true, wipeE, ite_true, ite_false, exists_and_right, DL.eq_int, DL.ne_int, DL.add_int, DL.sub_int', DL.cmp_int, wM_mul, wM_fdiv, wM_mod, wM_pow, wM_shl, wM_shr, tyD_str, truD_bl, ex1, ex2, exists_eq', exists_eq, Option.bind_some, q, decide_true])
    refine ⟨size_le (by decide), ?_⟩
    refine (next_spec s2.app (by decide) (by decide)).imp ?_
    rintro _ M3 ⟨i, rfl, i0, i1, s3, g3⟩
    obtain ⟨x, _, _, ex⟩ := atI_map (f := D.int) (l := [1, 3, 4]) i0 i1
    have e3 := g3.get (l := M2.length) get_new (by have := s2.lt; simp; omega)
    try (simp (config := { maxSteps := 1000000 }) only [wS_seq, wS_nx, wS_expr, wS_ret, wS_retN, wS_asg, wS_par2, wS_par3, wS_sub, wS_if, wS_for, wS_brk, wS_cont, wS_pass, after_nx, after_rt, after_bk, after_ct, wE_bind, wE_pure, wE_mem, wE_var, wE_call, wE_bin, wE_un, wE_nil, wE_cons, wE_tup, wE_lst, wE_cb, wE_lenSet, wE_meth, wE_tOfE, wE_tTru, wE_tAnd, wE_tOr, wE_tNot, wE_tYes, wE_if, wE_and, wE_or, wE_not, wE_oNo, wE_oSome, wE_sl, wE_iOf, wE_iSeq, gN_f, gT_f, gsNil_f, gsCons_f, wM_some, wM_newL, wM_if, List.getElem?_cons_zero, List.getElem?_cons_succ, List.set_cons_zero, List.set_cons_succ, List.map_cons, List.map_nil, List.cons_append, List.nil_append, Nat.reduceSub, List.replicate_succ, List.replicate_zero, List.length_cons, List.length_nil, Nat.reduceAdd, Option.some.injEq, exists_eq_left', exists_eq_left, D.bl.injEq, D.int.injEq, List.cons.injEq, and_true, true_and, exists_and_left, reduceCtorEq, false_and, and_false, exists_false, exists_const, if_true, if_false, Bool.false_eq_true, wipeE, ite_true, ite_false, exists_and_right, DL.eq_int, DL.ne_int, DL.add_int, DL.sub_int', DL.cmp_int, wM_mul, wM_fdiv, wM_mod, wM_pow, wM_shl, wM_shr, tyD_str, truD_bl, ex1, ex2, exists_eq', exists_eq, Option.bind_some, ix_ref e3 ex])
    exact ⟨size_le (by decide), { b with en := x }, rfl, ⟨hb.st, hb.so, ⟨kl.1, by show b.ks.length ≤ _; omega⟩, hb.ko, hb.w, hb.h, by have := hb.sl; show b.sd.length ≤ _; omega, hb.up, hb.fl⟩, rfl, rfl, rfl, s3, (g1.trans g2).trans (Go.app.trans g3)⟩
  try (simp (config := { maxSteps := 1000000 }) only [wS_seq, wS_nx, wS_expr, wS_ret, wS_retN, wS_asg, wS_par2, wS_par3, wS_sub, wS_if, wS_for, wS_brk, wS_cont, wS_pass, after_nx, after_rt, after_bk, after_ct, wE_bind, wE_pure, wE_mem, wE_var, wE_call, wE_bin, wE_un, wE_nil, wE_cons, wE_tup, wE_lst, wE_cb, wE_lenSet, wE_meth, wE_tOfE, wE_tTru, wE_tAnd, wE_tOr, wE_tNot, wE_tYes, wE_if, wE_and, wE_or, wE_not, wE_oNo, wE_oSome, wE_sl, wE_iOf, wE_iSeq, gN_f, gT_f, gsNil_f, gsCons_f, wM_some, wM_newL, wM_if, List.getElem?_cons_zero, List.getElem?_cons_succ, List.set_cons_zero, List.set_cons_succ, List.map_cons, List.map_nil, List.cons_append, List.nil_append, Nat.reduceSub, List.replicate_succ, List.replicate_zero, List.length_cons, List.length_nil, Nat.reduceAdd, Option.some.injEq, exists_eq_left', exists_eq_left, D.bl.injEq, D.int.injEq, List.cons.injEq, and_true, true_and, exists_and_left, reduceCtorEq, false_and, and_false, exists_false, exists_const, if_true, if_false, Bool.false_eq_true, wipeE, ite_true, ite_false, exists_and_right, DL.eq_int, DL.ne_int, DL.add_int, DL.sub_int', DL.cmp_int, wM_mul, wM_fdiv, wM_mod, wM_pow, wM_shl, wM_shr, tyD_str, truD_bl, ex1, ex2, exists_eq', exists_eq, Option.bind_some, q, decide_false])
  have e1 : ∀ M, opIx (.tup (b.ks.map Kd.d)) (.int at_) M = some (k.d, M) := fun M => ix_tup' ek
  by_cases q1 : way = 1
  · try (simp (config := { maxSteps := 1000000 }) only [wS_seq, wS_nx, wS_expr, wS_ret, wS_retN, wS_asg, wS_par2, wS_par3, wS_sub, wS_if, wS_for, wS_brk, wS_cont, wS_pass, after_nx, after_rt, after_bk, after_ct, wE_bind, wE_pure, wE_mem, wE_var, wE_call, wE_bin, wE_un, wE_nil, wE_cons, wE_tup, wE_lst, wE_cb, wE_lenSet, wE_meth, wE_tOfE, wE_tTru, wE_tAnd, wE_tOr, wE_tNot, wE_tYes, wE_if, wE_and, wE_or, wE_not, wE_oNo, wE_oSome, wE_sl, wE_iOf, wE_iSeq, gN_f, gT_f, gsNil_f, gsCons_f, wM_some, wM_newL, wM_if, List.getElem?_cons_zero, List.getElem?_cons_succ, List.set_cons_zero, List.set_cons_succ, List.map_cons, List.map_nil, List.cons_append, List.nil_append, Nat.reduceSub, List.replicate_succ, List.replicate_zero, List.length_cons, List.length_nil, Nat.reduceAdd, Option.some.injEq, exists_eq_left', exists_eq_left, D.bl.injEq, D.int.injEq, List.cons.injEq, and_true, true_and, exists_and_left, reduceCtorEq, false_and, and_false, exists_false, exists_const, if_true, if_false, Bool.false_eq_true, wipeE, ite_true, ite_false, exists_and_right, DL.eq_int, DL.ne_int, DL.add_int, DL.sub_int', DL.cmp_int, wM_mul, wM_fdiv, wM_mod, wM_pow, wM_shl, wM_shr, tyD_str, truD_bl, ex1, ex2, exists_eq', exists_eq, Option.bind_some, q1, decide_true, len_tup, List.length_map])
    refine (next_spec s2 (by omega) (by omega)).imp ?_
    rintro _ M3 ⟨i, rfl, i0, i1, s3, g3⟩
    obtain ⟨p, hp, hpm, ep⟩ := atI_map (f := stD) (l := b.st) i0 i1
    have e2 : ∀ M, opIx (.tup (b.st.map stD)) (.int i) M = some (stD p, M) := fun M => ix_tup' ep
    have e3 : ∀ M, opIx (stD p) (.int 0) M = some (.str p.1, M) := fun M => ix_tup' atI_0
    try (simp (config := { maxSteps := 1000000 }) only [wS_seq, wS_nx, wS_expr, wS_ret, wS_retN, wS_asg, wS_par2, wS_par3, wS_sub, wS_if, wS_for, wS_brk, wS_cont, wS_pass, after_nx, after_rt, after_bk, after_ct, wE_bind, wE_pure, wE_mem, wE_var, wE_call, wE_bin, wE_un, wE_nil, wE_cons, wE_tup, wE_lst, wE_cb, wE_lenSet, wE_meth, wE_tOfE, wE_tTru, wE_tAnd, wE_tOr, wE_tNot, wE_tYes, wE_if, wE_and, wE_or, wE_not, wE_oNo, wE_oSome, wE_sl, wE_iOf, wE_iSeq, gN_f, gT_f, gsNil_f, gsCons_f, wM_some, wM_newL, wM_if, List.getElem?_cons_zero, List.getElem?_cons_succ, List.set_cons_zero, List.set_cons_succ, List.map_cons, List.map_nil, List.cons_append, List.nil_append, Nat.reduceSub, List.replicate_succ, List.replicate_zero, List.length_cons, List.length_nil, Nat.reduceAdd, Option.some.injEq, exists_eq_left', exists_eq_left, D.bl.injEq, D.int.injEq, List.cons.injEq, and_true, true_and, exists_and_left, reduceCtorEq, false_and, and_false, exists_false, exists_const, if_true, if_false, Bool.false_eq_true, wipeE, ite_true, ite_false, exists_and_right, DL.eq_int, DL.ne_int, DL.add_int, DL.sub_int', DL.cmp_int, wM_mul, wM_fdiv, wM_mod, wM_pow, wM_shl, wM_shr, tyD_str, truD_bl, ex1, ex2, exists_eq', exists_eq, Option.bind_some, e2, e3])
    refine (next_spec s3 (by decide) (by decide)).imp ?_
    rintro _ M4 ⟨j, rfl, j0, j1, s4, g4⟩
    try (simp (config := { maxSteps := 1000000 }) only [wS_seq, wS_nx, wS_expr, wS_ret, wS_retN, wS_asg, wS_par2, wS_par3, wS_sub, wS_if, wS_for, wS_brk, wS_cont, wS_pass, after_nx, after_rt, after_bk, after_ct, wE_bind, wE_pure, wE_mem, wE_var, wE_call, wE_bin, wE_un, wE_nil, wE_cons, wE_tup, wE_lst, wE_cb, wE_lenSet, wE_meth, wE_tOfE, wE_tTru, wE_tAnd, wE_tOr, wE_tNot, wE_tYes, wE_if, wE_and, wE_or, wE_not, wE_oNo, wE_oSome, wE_sl, wE_iOf, wE_iSeq, gN_f, gT_f, gsNil_f, gsCons_f, wM_some, wM_newL, wM_if, List.getElem?_cons_zero, List.getElem?_cons_succ, List.set_cons_zero, List.set_cons_succ, List.map_cons, List.map_nil, List.cons_append, List.nil_append, Nat.reduceSub, List.replicate_succ, List.replicate_zero, List.length_cons, List.length_nil, Nat.reduceAdd, Option.some.injEq, exists_eq_left', exists_eq_left, D.bl.injEq, D.int.injEq, List.cons.injEq, and_true, true_and, exists_and_left, reduceCtorEq, false_and, and_false, exists_false, exists_const, if_true, if_false, Bool.false_eq_true, wipeE, ite_true, ite_false, exists_and_right, DL.eq_int, DL.ne_int, DL.add_int, DL.sub_int', DL.cmp_int, wM_mul, wM_fdiv, wM_mod, wM_pow, wM_shl, wM_shr, tyD_str, truD_bl, ex1, ex2, exists_eq', exists_eq, Option.bind_some])
    refine ⟨size_le (by decide), ?_⟩
    refine (with_spec i0 (by rw [List.length_map]; exact i1) (by rw [List.length_map]; omega)).imp ?_
    rintro _ M5 ⟨rfl, rfl⟩
    refine ⟨size_le (by decide), { b with st := b.st.set i.toNat (p.1, 1 + j) }, ?_, hb.sst (by rw [List.length_set]) ?_, rfl, rfl, rfl, s4, ((g1.trans g2).trans g3).trans g4⟩
    · unfold Bed.ho
      rw [← set_map]
      rfl
    · intro r hr
      rcases mem_set hr with hr | rfl
      · exact hb.so r hr
      · exact hb.so p hpm
  try (simp (config := { maxSteps := 1000000 }) only [wS_seq, wS_nx, wS_expr, wS_ret, wS_retN, wS_asg, wS_par2, wS_par3, wS_sub, wS_if, wS_for, wS_brk, wS_cont, wS_pass, after_nx, after_rt, after_bk, after_ct, wE_bind, wE_pure, wE_mem, wE_var, wE_call, wE_bin, wE_un, wE_nil, wE_cons, wE_tup, wE_lst, wE_cb, wE_lenSet, wE_meth, wE_tOfE, wE_tTru, wE_tAnd, wE_tOr, wE_tNot, wE_tYes, wE_if, wE_and, wE_or, wE_not, wE_oNo, wE_oSome, wE_sl, wE_iOf, wE_iSeq, gN_f, gT_f, gsNil_f, gsCons_f, wM_some, wM_newL, wM_if, List.getElem?_cons_zero, List.getElem?_cons_succ, List.set_cons_zero, List.set_cons_succ, List.map_cons, List.map_nil, List.cons_append, List.nil_append, Nat.reduceSub, List.replicate_succ, List.replicate_zero, List.length_cons, List.length_nil, Nat.reduceAdd, Option.some.injEq, exists_eq_left', exists_eq_left, D.bl.injEq, D.int.injEq, List.cons.injEq, and_true, true_and, exists_and_left, reduceCtorEq, false_and, and_false, exists_false, exists_const, if_true, if_false, Bool.false_eq_true, wipeE, ite_true, ite_false, exists_and_right, DL.eq_int, DL.ne_int, DL.add_int, DL.sub_int', DL.cmp_int, wM_mul, wM_fdiv, wM_mod, wM_pow, wM_shl, wM_shr, tyD_str, truD_bl, ex1, ex2, exists_eq', exists_eq, Option.bind_some, q1, decide_false])
  by_cases q2 : way = 2
  · try (simp (config := { maxSteps := 1000000 }) only [wS_seq, wS_nx, wS_expr, wS_ret, wS_retN, wS_asg, wS_par2, wS_par3, wS_sub, wS_if, wS_for, wS_brk, wS_cont, wS_pass, after_nx, after_rt, after_bk, after_ct, wE_bind, wE_pure, wE_mem, wE_var, wE_call, wE_bin, wE_un, wE_nil, wE_cons, wE_tup, wE_lst, wE_cb, wE_lenSet, wE_meth, wE_tOfE, wE_tTru, wE_tAnd, wE_tOr, wE_tNot, wE_tYes, wE_if, wE_and, wE_or, wE_not, wE_oNo, wE_oSome, wE_sl, wE_iOf, wE_iSeq, gN_f, gT_f, gsNil_f, gsCons_f, wM_some, wM_newL, wM_if, List.getElem?_cons_zero, List.getElem?_cons_succ, List.set_cons_zero, List.set_cons_succ, List.map_cons, List.map_nil, List.cons_append, List.nil_append, Nat.reduceSub, List.replicate_succ, List.replicate_zero, List.length_cons, List.length_nil, Nat.reduceAdd, Option.some.injEq, exists_eq_left', exists_eq_left, D.bl.injEq, D.int.injEq, List.cons.injEq, and_true, true_and, exists_and_left, reduceCtorEq, false_and, and_false, exists_false, exists_const, if_true, if_false, Bool.false_eq_true, wipeE, ite_true, ite_false, exists_and_right, DL.eq_int, DL.ne_int, DL.add_int, DL.sub_int', DL.cmp_int, wM_mul, wM_fdiv, wM_mod, wM_pow, wM_shl, wM_shr, tyD_str, truD_bl, ex1, ex2, exists_eq', exists_eq, Option.bind_some, q2, decide_true])
    refine ⟨size_le (by decide), ?_⟩
    refine lc_all (fun d => match d with | .tup (x :: _) => x | _ => .non) ?_
    try (simp (config := { maxSteps := 1000000 }) only [wS_seq, wS_nx, wS_expr, wS_ret, wS_retN, wS_asg, wS_par2, wS_par3, wS_sub, wS_if, wS_for, wS_brk, wS_cont, wS_pass, after_nx, after_rt, after_bk, after_ct, wE_bind, wE_pure, wE_mem, wE_var, wE_call, wE_bin, wE_un, wE_nil, wE_cons, wE_tup, wE_lst, wE_cb, wE_lenSet, wE_meth, wE_tOfE, wE_tTru, wE_tAnd, wE_tOr, wE_tNot, wE_tYes, wE_if, wE_and, wE_or, wE_not, wE_oNo, wE_oSome, wE_sl, wE_iOf, wE_iSeq, gN_f, gT_f, gsNil_f, gsCons_f, wM_some, wM_newL, wM_if, List.getElem?_cons_zero, List.getElem?_cons_succ, List.set_cons_zero, List.set_cons_succ, List.map_cons, List.map_nil, List.cons_append, List.nil_append, Nat.reduceSub, List.replicate_succ, List.replicate_zero, List.length_cons, List.length_nil, Nat.reduceAdd, Option.some.injEq, exists_eq_left', exists_eq_left, D.bl.injEq, D.int.injEq, List.cons.injEq, and_true, true_and, exists_and_left, reduceCtorEq, false_and, and_false, exists_false, exists_const, if_true, if_false, Bool.false_eq_true, wipeE, ite_true, ite_false, exists_and_right, DL.eq_int, DL.ne_int, DL.add_int, DL.sub_int', DL.cmp_int, wM_mul, wM_fdiv, wM_mod, wM_pow, wM_shl, wM_shr, tyD_str, truD_bl, ex1, ex2, exists_eq', exists_eq, Option.bind_some, itSeq_tup])
    refine ⟨fun _ => trivial, by rw [List.length_map]; omega, ?_, ?_⟩
    · intro x hx
      obtain ⟨p, _, rfl⟩ := List.mem_map.mp hx
      try (simp (config := { maxSteps := 1000000 }) only [wS_seq, wS_nx, wS_expr, wS_ret, wS_retN, wS_asg, wS_par2, wS_par3, wS_sub, wS_if, wS_for, wS_brk, wS_cont, wS_pass, after_nx, after_rt, after_bk, after_ct, wE_bind, wE_pure, wE_mem, wE_var, wE_call, wE_bin, wE_un, wE_nil, wE_cons, wE_tup, wE_lst, wE_cb, wE_lenSet, wE_meth, wE_tOfE, wE_tTru, wE_tAnd, wE_tOr, wE_tNot, wE_tYes, wE_if, wE_and, wE_or, wE_not, wE_oNo, wE_oSome, wE_sl, wE_iOf, wE_iSeq, gN_f, gT_f, gsNil_f, gsCons_f, wM_some, wM_newL, wM_if, List.getElem?_cons_zero, List.getElem?_cons_succ, List.set_cons_zero, List.set_cons_succ, List.map_cons, List.map_nil, List.cons_append, List.nil_append, Nat.reduceSub, List.replicate_succ, List.replicate_zero, List.length_cons, List.length_nil, Nat.reduceAdd, Option.some.injEq, exists_eq_left', exists_eq_left, D.bl.injEq, D.int.injEq, List.cons.injEq, and_true, true_and, exists_and_left, reduceCtorEq, false_and, and_false, exists_false, exists_const, if_true, if_false, Bool.false_eq_true, wipeE, ite_true, ite_false, exists_and_right, DL.eq_int, DL.ne_int, DL.add_int, DL.sub_int', DL.cmp_int, wM_mul, wM_fdiv, wM_mod, wM_pow, wM_shl, wM_shr, tyD_str, truD_bl, ex1, ex2, exists_eq', exists_eq, Option.bind_some, stD])
      simp
    · rw [tup_ref get_new, wM_some, List.map_map, show b.st.map ((fun d => match d with | D.tup (x :: _) => x | _ => .non) ∘ stD) = b.st.map fun p => D.str p.1 from rfl, add_tup' (by rw [List.length_map]; simp; omega), wM_some]
      try (simp (config := { maxSteps := 1000000 }) only [wS_seq, wS_nx, wS_expr, wS_ret, wS_retN, wS_asg, wS_par2, wS_par3, wS_sub, wS_if, wS_for, wS_brk, wS_cont, wS_pass, after_nx, after_rt, after_bk, after_ct, wE_bind, wE_pure, wE_mem, wE_var, wE_call, wE_bin, wE_un, wE_nil, wE_cons, wE_tup, wE_lst, wE_cb, wE_lenSet, wE_meth, wE_tOfE, wE_tTru, wE_tAnd, wE_tOr, wE_tNot, wE_tYes, wE_if, wE_and, wE_or, wE_not, wE_oNo, wE_oSome, wE_sl, wE_iOf, wE_iSeq, gN_f, gT_f, gsNil_f, gsCons_f, wM_some, wM_newL, wM_if, List.getElem?_cons_zero, List.getElem?_cons_succ, List.set_cons_zero, List.set_cons_succ, List.map_cons, List.map_nil, List.cons_append, List.nil_append, Nat.reduceSub, List.replicate_succ, List.replicate_zero, List.length_cons, List.length_nil, Nat.reduceAdd, Option.some.injEq, exists_eq_left', exists_eq_left, D.bl.injEq, D.int.injEq, List.cons.injEq, and_true, true_and, exists_and_left, reduceCtorEq, false_and, and_false, exists_false, exists_const, if_true, if_false, Bool.false_eq_true, wipeE, ite_true, ite_false, exists_and_right, DL.eq_int, DL.ne_int, DL.add_int, DL.sub_int', DL.cmp_int, wM_mul, wM_fdiv, wM_mod, wM_pow, wM_shl, wM_shr, tyD_str, truD_bl, ex1, ex2, exists_eq', exists_eq, Option.bind_some, len_tup, List.length_map])
      have s2' := s2.app (N := [.lst (b.st.map fun p => D.str p.1)])
      refine (next_spec s2' (by omega) (by omega)).imp ?_
      rintro _ M3 ⟨i, rfl, i0, i1, s3, g3⟩
      obtain ⟨x, _, hxm, ex⟩ := atI_map (f := D.str) (l := "" :: b.st.map fun p => p.1) i0 (by simp; omega)
      have hx : PyData.strOk x = true := by
        rcases List.mem_cons.mp hxm with rfl | hxm
        · decide +kernel
        · obtain ⟨p, hp, rfl⟩ := List.mem_map.mp hxm
          exact hb.so p hp
      rw [List.map_cons, List.map_map] at ex
      have ex' : ∀ M, opIx (.tup (.str "" :: b.st.map fun p => D.str p.1)) (.int i) M = some (.str x, M) := fun M => ix_tup' ex
      try (simp (config := { maxSteps := 1000000 }) only [wS_seq, wS_nx, wS_expr, wS_ret, wS_retN, wS_asg, wS_par2, wS_par3, wS_sub, wS_if, wS_for, wS_brk, wS_cont, wS_pass, after_nx, after_rt, after_bk, after_ct, wE_bind, wE_pure, wE_mem, wE_var, wE_call, wE_bin, wE_un, wE_nil, wE_cons, wE_tup, wE_lst, wE_cb, wE_lenSet, wE_meth, wE_tOfE, wE_tTru, wE_tAnd, wE_tOr, wE_tNot, wE_tYes, wE_if, wE_and, wE_or, wE_not, wE_oNo, wE_oSome, wE_sl, wE_iOf, wE_iSeq, gN_f, gT_f, gsNil_f, gsCons_f, wM_some, wM_newL, wM_if, List.getElem?_cons_zero, List.getElem?_cons_succ, List.set_cons_zero, List.set_cons_succ, List.map_cons, List.map_nil, List.cons_append, List.nil_append, Nat.reduceSub, List.replicate_succ, List.replicate_zero, List.length_cons, List.length_nil, Nat.reduceAdd, Option.some.injEq, exists_eq_left', exists_eq_left, D.bl.injEq, D.int.injEq, List.cons.injEq, and_true, true_and, exists_and_left, reduceCtorEq, false_and, and_false, exists_false, exists_const, if_true, if_false, Bool.false_eq_true, wipeE, ite_true, ite_false, exists_and_right, DL.eq_int, DL.ne_int, DL.add_int, DL.sub_int', DL.cmp_int, wM_mul, wM_fdiv, wM_mod, wM_pow, wM_shl, wM_shr, tyD_str, truD_bl, ex1, ex2, exists_eq', exists_eq, Option.bind_some, ex', e1])
      refine (next_spec s3 (by decide) (by decide)).imp ?_
      rintro _ M4 ⟨j, rfl, j0, j1, s4, g4⟩
      try (simp (config := { maxSteps := 1000000 }) only [wS_seq, wS_nx, wS_expr, wS_ret, wS_retN, wS_asg, wS_par2, wS_par3, wS_sub, wS_if, wS_for, wS_brk, wS_cont, wS_pass, after_nx, after_rt, after_bk, after_ct, wE_bind, wE_pure, wE_mem, wE_var, wE_call, wE_bin, wE_un, wE_nil, wE_cons, wE_tup, wE_lst, wE_cb, wE_lenSet, wE_meth, wE_tOfE, wE_tTru, wE_tAnd, wE_tOr, wE_tNot, wE_tYes, wE_if, wE_and, wE_or, wE_not, wE_oNo, wE_oSome, wE_sl, wE_iOf, wE_iSeq, gN_f, gT_f, gsNil_f, gsCons_f, wM_some, wM_newL, wM_if, List.getElem?_cons_zero, List.getElem?_cons_succ, List.set_cons_zero, List.set_cons_succ, List.map_cons, List.map_nil, List.cons_append, List.nil_append, Nat.reduceSub, List.replicate_succ, List.replicate_zero, List.length_cons, List.length_nil, Nat.reduceAdd, Option.some.injEq, exists_eq_left', exists_eq_left, D.bl.injEq, D.int.injEq, List.cons.injEq, and_true, true_and, exists_and_left, reduceCtorEq, false_and, and_false, exists_false, exists_const, if_true, if_false, Bool.false_eq_true, wipeE, ite_true, ite_false, exists_and_right, DL.eq_int, DL.ne_int, DL.add_int, DL.sub_int', DL.cmp_int, wM_mul, wM_fdiv, wM_mod, wM_pow, wM_shl, wM_shr, tyD_str, truD_bl, ex1, ex2, exists_eq', exists_eq, Option.bind_some])
      unfold Kd.d
      refine (with_spec (by omega) (by simp; omega) (by simp)).imp ?_
      rintro _ M5 ⟨rfl, rfl⟩
      obtain ⟨k', ek', ok'⟩ := kd_set hko hx j0 j1
      rw [ek']
      refine (with_spec a0 (by rw [List.length_map]; exact a1) (by rw [List.length_map]; omega)).imp ?_
      rintro _ M6 ⟨rfl, rfl⟩
      refine ⟨size_le (by decide), { b with ks := b.ks.set at_.toNat k' }, ?_, hb.kst (by rw [List.length_set]; exact kl.1) (by rw [List.length_set]; omega) ?_, rfl, rfl, rfl, s4, (g1.trans g2).trans (Go.app.trans (g3.trans g4))⟩
      · unfold Bed.ho
        rw [← set_map]
        rfl
      · intro r hr
        rcases mem_set hr with hr | rfl
        · exact hb.ko r hr
        · exact ok'
  try (simp (config := { maxSteps := 1000000 }) only [wS_seq, wS_nx, wS_expr, wS_ret, wS_retN, wS_asg, wS_par2, wS_par3, wS_sub, wS_if, wS_for, wS_brk, wS_cont, wS_pass, after_nx, after_rt, after_bk, after_ct, wE_bind, wE_pure, wE_mem, wE_var, wE_call, wE_bin, wE_un, wE_nil, wE_cons, wE_tup, wE_lst, wE_cb, wE_lenSet, wE_meth, wE_tOfE, wE_tTru, wE_tAnd, wE_tOr, wE_tNot, wE_tYes, wE_if, wE_and, wE_or, wE_not, wE_oNo, wE_oSome, wE_sl, wE_iOf, wE_iSeq, gN_f, gT_f, gsNil_f, gsCons_f, wM_some, wM_newL, wM_if, List.getElem?_cons_zero, List.getElem?_cons_succ, List.set_cons_zero, List.set_cons_succ, List.map_cons, List.map_nil, List.cons_append, List.nil_append, Nat.reduceSub, List.replicate_succ, List.replicate_zero, List.length_cons, List.length_nil, Nat.reduceAdd, Option.some.injEq, exists_eq_left', exists_eq_left, D.bl.injEq, D.int.injEq, List.cons.injEq, and_true, true_and, exists_and_left, reduceCtorEq, false_and, and_false, exists_false, exists_const, if_true, if_false, Bool.false_eq_true, wipeE, ite_true, ite_false, exists_and_right, DL.eq_int, DL.ne_int, DL.add_int, DL.sub_int', DL.cmp_int, wM_mul, wM_fdiv, wM_mod, wM_pow, wM_shl, wM_shr, tyD_str, truD_bl, ex1, ex2, exists_eq', exists_eq, Option.bind_some, q2, decide_false, len_tup, List.length_map])
  refine (next_spec s2 (by omega) (by omega)).imp ?_
  rintro _ M3 ⟨i, rfl, i0, i1, s3, g3⟩
  obtain ⟨k2, _, hkm2, ek2⟩ := atI_map (f := Kd.d) (l := b.ks) i0 i1
  have e2 : ∀ M, opIx (.tup (b.ks.map Kd.d)) (.int i) M = some (k2.d, M) := fun M => ix_tup' ek2
  try (simp (config := { maxSteps := 1000000 }) only [wS_seq, wS_nx, wS_expr, wS_ret, wS_retN, wS_asg, wS_par2, wS_par3, wS_sub, wS_if, wS_for, wS_brk, wS_cont, wS_pass, after_nx, after_rt, after_bk, after_ct, wE_bind, wE_pure, wE_mem, wE_var, wE_call, wE_bin, wE_un, wE_nil, wE_cons, wE_tup, wE_lst, wE_cb, wE_lenSet, wE_meth, wE_tOfE, wE_tTru, wE_tAnd, wE_tOr, wE_tNot, wE_tYes, wE_if, wE_and, wE_or, wE_not, wE_oNo, wE_oSome, wE_sl, wE_iOf, wE_iSeq, gN_f, gT_f, gsNil_f, gsCons_f, wM_some, wM_newL, wM_if, List.getElem?_cons_zero, List.getElem?_cons_succ, List.set_cons_zero, List.set_cons_succ, List.map_cons, List.map_nil, List.cons_append, List.nil_append, Nat.reduceSub, List.replicate_succ, List.replicate_zero, List.length_cons, List.length_nil, Nat.reduceAdd, Option.some.injEq, exists_eq_left', exists_eq_left, D.bl.injEq, D.int.injEq, List.cons.injEq, and_true, true_and, exists_and_left, reduceCtorEq, false_and, and_false, exists_false, exists_const, if_true, if_false, Bool.false_eq_true, wipeE, ite_true, ite_false, exists_and_right, DL.eq_int, DL.ne_int, DL.add_int, DL.sub_int', DL.cmp_int, wM_mul, wM_fdiv, wM_mod, wM_pow, wM_shl, wM_shr, tyD_str, truD_bl, ex1, ex2, exists_eq', exists_eq, Option.bind_some, e2, e1])
  by_cases q3 : way = 3
  · try (simp (config := { maxSteps := 1000000 }) only [wS_seq, wS_nx, wS_expr, wS_ret, wS_retN, wS_asg, wS_par2, wS_par3, wS_sub, wS_if, wS_for, wS_brk, wS_cont, wS_pass, after_nx, after_rt, after_bk, after_ct, wE_bind, wE_pure, wE_mem, wE_var, wE_call, wE_bin, wE_un, wE_nil, wE_cons, wE_tup, wE_lst, wE_cb, wE_lenSet, wE_meth, wE_tOfE, wE_tTru, wE_tAnd, wE_tOr, wE_tNot, wE_tYes, wE_if, wE_and, wE_or, wE_not, wE_oNo, wE_oSome, wE_sl, wE_iOf, wE_iSeq, gN_f, gT_f, gsNil_f, gsCons_f, wM_some, wM_newL, wM_if, List.getElem?_cons_zero, List.getElem?_cons_succ, List.set_cons_zero, List.set_cons_succ, List.map_cons, List.map_nil, List.cons_append, List.nil_append, Nat.reduceSub, List.replicate_succ, List.replicate_zero, List.length_cons, List.length_nil, Nat.reduceAdd, Option.some.injEq, exists_eq_left', exists_eq_left, D.bl.injEq, D.int.injEq, List.cons.injEq, and_true, true_and, exists_and_left, reduceCtorEq, false_and, and_false, exists_false, exists_const, if_true, if_false, Bool.false_eq_true, wipeE, ite_true, ite_false, exists_and_right, DL.eq_int, DL.ne_int, DL.add_int, DL.sub_int', DL.cmp_int, wM_mul, wM_fdiv, wM_mod, wM_pow, wM_shl, wM_shr, tyD_str, truD_bl, ex1, ex2, exists_eq', exists_eq, Option.bind_some, q3, decide_true])
    have e3 : ∀ M, opAdd (.tup (b.ks.map Kd.d)) (.tup [k2.d]) M = some (.tup (b.ks.map Kd.d ++ [k2.d]), M) := fun M => add_tup' (by rw [List.length_map]; simp; omega)
    try (simp (config := { maxSteps := 1000000 }) only [wS_seq, wS_nx, wS_expr, wS_ret, wS_retN, wS_asg, wS_par2, wS_par3, wS_sub, wS_if, wS_for, wS_brk, wS_cont, wS_pass, after_nx, after_rt, after_bk, after_ct, wE_bind, wE_pure, wE_mem, wE_var, wE_call, wE_bin, wE_un, wE_nil, wE_cons, wE_tup, wE_lst, wE_cb, wE_lenSet, wE_meth, wE_tOfE, wE_tTru, wE_tAnd, wE_tOr, wE_tNot, wE_tYes, wE_if, wE_and, wE_or, wE_not, wE_oNo, wE_oSome, wE_sl, wE_iOf, wE_iSeq, gN_f, gT_f, gsNil_f, gsCons_f, wM_some, wM_newL, wM_if, List.getElem?_cons_zero, List.getElem?_cons_succ, List.set_cons_zero, List.set_cons_succ, List.map_cons, List.map_nil, List.cons_append, List.nil_append, Nat.reduceSub, List.replicate_succ, List.replicate_zero, List.length_cons, List.length_nil, Nat.reduceAdd, Option.some.injEq, exists_eq_left', exists_eq_left, D.bl.injEq, D.int.injEq, List.cons.injEq, and_true, true_and, exists_and_left, reduceCtorEq, false_and, and_false, exists_false, exists_const, if_true, if_false, Bool.false_eq_true, wipeE, ite_true, ite_false, exists_and_right, DL.eq_int, DL.ne_int, DL.add_int, DL.sub_int', DL.cmp_int, wM_mul, wM_fdiv, wM_mod, wM_pow, wM_shl, wM_shr, tyD_str, truD_bl, ex1, ex2, exists_eq', exists_eq, Option.bind_some, e3])
    refine ⟨size_le (by decide), size_le (by decide), { b with ks := b.ks ++ [k2] }, ?_, hb.kst (by simp) (by simp; omega) ?_, rfl, rfl, rfl, s3, (g1.trans g2).trans g3⟩
    · unfold Bed.ho
      rw [List.map_append]
      rfl
    · intro r hr
      rcases List.mem_append.mp hr with hr | hr
      · exact hb.ko r hr
      · rw [List.mem_singleton] at hr
        subst hr
        exact hb.ko r hkm2
  try (simp (config := { maxSteps := 1000000 }) only [wS_seq, wS_nx, wS_expr, wS_ret, wS_retN, wS_asg, wS_par2, wS_par3, wS_sub, wS_if, wS_for, wS_brk, wS_cont, wS_pass, after_nx, after_rt, after_bk, after_ct, wE_bind, wE_pure, wE_mem, wE_var, wE_call, wE_bin, wE_un, wE_nil, wE_cons, wE_tup, wE_lst, wE_cb, wE_lenSet, wE_meth, wE_tOfE, wE_tTru, wE_tAnd, wE_tOr, wE_tNot, wE_tYes, wE_if, wE_and, wE_or, wE_not, wE_oNo, wE_oSome, wE_sl, wE_iOf, wE_iSeq, gN_f, gT_f, gsNil_f, gsCons_f, wM_some, wM_newL, wM_if, List.getElem?_cons_zero, List.getElem?_cons_succ, List.set_cons_zero, List.set_cons_succ, List.map_cons, List.map_nil, List.cons_append, List.nil_append, Nat.reduceSub, List.replicate_succ, List.replicate_zero, List.length_cons, List.length_nil, Nat.reduceAdd, Option.some.injEq, exists_eq_left', exists_eq_left, D.bl.injEq, D.int.injEq, List.cons.injEq, and_true, true_and, exists_and_left, reduceCtorEq, false_and, and_false, exists_false, exists_const, if_true, if_false, Bool.false_eq_true, wipeE, ite_true, ite_false, exists_and_right, DL.eq_int, DL.ne_int, DL.add_int, DL.sub_int', DL.cmp_int, wM_mul, wM_fdiv, wM_mod, wM_pow, wM_shl, wM_shr, tyD_str, truD_bl, ex1, ex2, exists_eq', exists_eq, Option.bind_some, q3, decide_false])
  have f1 : ∀ M, opSl k.d none (some 2) M = some (.tup [.str k.f, .str k.n], M) := fun M => rfl
  have f2 : ∀ M, opSl k2.d (some 2) (some 4) M = some (.tup [.str k2.e, .str k2.s], M) := fun M => rfl
  have f3 : ∀ M, opSl k.d (some 4) none M = some (.tup [.str k.w], M) := fun M => rfl
  have f4 : ∀ (a b c d : D) M, opAdd (.tup [a, b]) (.tup [c, d]) M = some (.tup [a, b, c, d], M) := fun a b c d M => add_tup' (by simp)
  have f5 : ∀ (a b c d e : D) M, opAdd (.tup [a, b, c, d]) (.tup [e]) M = some (.tup [a, b, c, d, e], M) := fun a b c d e M => add_tup' (by simp)
  try (simp (config := { maxSteps := 1000000 }) only [wS_seq, wS_nx, wS_expr, wS_ret, wS_retN, wS_asg, wS_par2, wS_par3, wS_sub, wS_if, wS_for, wS_brk, wS_cont, wS_pass, after_nx, after_rt, after_bk, after_ct, wE_bind, wE_pure, wE_mem, wE_var, wE_call, wE_bin, wE_un, wE_nil, wE_cons, wE_tup, wE_lst, wE_cb, wE_lenSet, wE_meth, wE_tOfE, wE_tTru, wE_tAnd, wE_tOr, wE_tNot, wE_tYes, wE_if, wE_and, wE_or, wE_not, wE_oNo, wE_oSome, wE_sl, wE_iOf, wE_iSeq, gN_f, gT_f, gsNil_f, gsCons_f, wM_some, wM_newL, wM_if, List.getElem?_cons_zero, List.getElem?_cons_succ, List.set_cons_zero, List.set_cons_succ, List.map_cons, List.map_nil, List.cons_append, List.nil_append, Nat.reduceSub, List.replicate_succ, List.replicate_zero, List.length_cons, List.length_nil, Nat.reduceAdd, Option.some.injEq, exists_eq_left', exists_eq_left, D.bl.injEq, D.int.injEq, List.cons.injEq, and_true, true_and, exists_and_left, reduceCtorEq, false_and, and_false, exists_false, exists_const, if_true, if_false, Bool.false_eq_true, wipeE, ite_true, ite_false, exists_and_right, DL.eq_int, DL.ne_int, DL.add_int, DL.sub_int', DL.cmp_int, wM_mul, wM_fdiv, wM_mod, wM_pow, wM_shl, wM_shr, tyD_str, truD_bl, ex1, ex2, exists_eq', exists_eq, Option.bind_some, f1, f2, f3, f4, f5])
  refine (with_spec a0 (by rw [List.length_map]; exact a1) (by rw [List.length_map]; omega)).imp ?_
  rintro _ M6 ⟨rfl, rfl⟩
  refine ⟨size_le (by decide), { b with ks := b.ks.set at_.toNat { k with e := k2.e, s := k2.s } }, ?_, hb.kst (by rw [List.length_set]; exact kl.1) (by rw [List.length_set]; omega) ?_, rfl, rfl, rfl, s3, (g1.trans g2).trans g3⟩
  · unfold Bed.ho
    rw [← set_map]
    rfl
  · intro r hr
    rcases mem_set hr with hr | rfl
    · exact hb.ko r hr
    · have := hb.ko k2 hkm2
      exact ⟨hko.f, hko.n, this.e, this.s, hko.w⟩
end G

namespace G
open PySem PySem.Spec PyProof.Rows L2 DL
def ppD (p : Int × Int) : D := .tup [.int p.1, .int p.2]
theorem ppD_pln {n : Nat} (p : Int × Int) : pln (n + 1) (ppD p) = true := by cases n <;> rfl
theorem pps_pln {n : Nat} (l : List (Int × Int)) : (l.map ppD).all (pln (n + 1)) = true := by
  rw [List.all_eq_true]
  intro d hd
  obtain ⟨p, _, rfl⟩ := List.mem_map.mp hd
  exact ppD_pln p
theorem ppD_inj {p q : Int × Int} (h : ppD p = ppD q) : p = q := by
  unfold ppD at h
  injection h with h
  injection h with h1 h
  injection h with h2 h
  injection h1 with h1
  injection h2 with h2
  exact Prod.ext h1 h2
theorem ppD_mem {p : Int × Int} {l : List (Int × Int)} : ppD p ∈ l.map ppD ↔ p ∈ l := by
  constructor
  · intro h
    obtain ⟨q, hq, e⟩ := List.mem_map.mp h
    rw [← ppD_inj e]
    exact hq
  · exact fun h => List.mem_map.mpr ⟨p, h, rfl⟩
def OPost (s o n : Nat) (M : Mem) (d : D) (M' : Mem) : Prop := ∃ b' : Bed, d = b'.d ∧ WB (n + 1) b' ∧ St s o M' ∧ Go [s, o] M M'
theorem WB.sds {n : Nat} {b : Bed} (h : WB n b) {sd : List (Int × Int × Int)} (h1 : sd.length ≤ 144 + (n + 1)) (h2 : sd.Pairwise fun t u => LtP (plc t) (plc u)) (h3 : ∀ t ∈ sd, 0 ≤ t.1 ∧ t.1 < b.w ∧ 0 ≤ t.2.1 ∧ t.2.1 < b.h) : WB (n + 1) { b with sd := sd } := ⟨h.st, h.so, h.mono.ks, h.ko, h.w, h.h, h1, h2, h3⟩
theorem iii_toPy {M : Mem} (t : Int × Int × Int) : toPy M (sdD t) = some (.tuple [.int t.1, .int t.2.1, .int t.2.2]) := by
  have := toP_pln (M := M) (n := 1) (m := 70) (d := sdD t) (by decide) rfl
  exact this
/-- the sorted tiles -/
theorem sorted_sd {M : Mem} {l : Nat} {ts : List (Int × Int × Int)} (h : M[l]? = some (.lst (ts.map sdD))) (hz : ts.length ≤ 16777216) (hne : ts.Pairwise fun t u => plc t ≠ plc u) : ∃ us : List (Int × Int × Int), us.Perm ts ∧ us.Pairwise (fun t u => LtP (plc t) (plc u)) ∧ cSorted [.ref l] M = some (.ref M.length, M ++ [.lst (us.map sdD)]) := by
  have hle : ∀ t u : Int × Int × Int, PySem.W.dataLe false (fun (t : Int × Int × Int) => PyData.tuple [.int t.1, .int t.2.1, .int t.2.2]) t u = !decide (u.1 < t.1 ∨ (u.1 = t.1 ∧ (u.2.1 < t.2.1 ∨ u.2.1 = t.2.1 ∧ u.2.2 < t.2.2))) := fun t u => by
    rw [PySem.W.dataLe_eq]
    show (!PySem.W.dataLt _ _) = _
    rw [lt_iii]
  refine ⟨_, List.mergeSort_perm ts (PySem.W.dataLe false fun t => .tuple [.int t.1, .int t.2.1, .int t.2.2]), ?_, sorted_map sdD (fun t => .tuple [.int t.1, .int t.2.1, .int t.2.2]) h (fun t _ => iii_toPy t) (fun a _ b _ => by simp [PySem.W.alike, PySem.W.alikeAll]) ?_ (fun b _ => by simp [PyData.depth, PyData.depthAll]) hz⟩
  · have h1 := List.pairwise_mergeSort (le := PySem.W.dataLe false fun (t : Int × Int × Int) => PyData.tuple [.int t.1, .int t.2.1, .int t.2.2]) (fun a b c => by
      rw [hle, hle, hle]
      simp only [Bool.not_eq_true', decide_eq_false_iff_not]
      omega) (fun a b => by
      rw [hle, hle]
      simp only [Bool.or_eq_true, Bool.not_eq_true', decide_eq_false_iff_not]
      omega) ts
    have h2 : (ts.mergeSort (PySem.W.dataLe false fun (t : Int × Int × Int) => PyData.tuple [.int t.1, .int t.2.1, .int t.2.2])).Pairwise fun t u => plc t ≠ plc u :=
      ((List.mergeSort_perm ts _).pairwise_iff (fun {a b} hab => hab.symm)).mpr hne
    refine List.Pairwise.imp₂ (fun t u ha hb => ?_) h1 h2
    rw [hle] at ha
    simp only [Bool.not_eq_true', decide_eq_false_iff_not] at ha
    have hb' : ¬ (t.1 = u.1 ∧ t.2.1 = u.2.1) := fun ⟨e1, e2⟩ => hb (Prod.ext e1 e2)
    unfold LtP plc
    dsimp only
    omega
  · unfold sortableB
    rw [Bool.or_eq_true]
    left
    rw [List.all_eq_true]
    intro p hp
    obtain ⟨x, _, rfl⟩ := List.mem_map.mp hp
    rfl
theorem otherwise_spec {s o n : Nat} {b : Bed} {M : Mem} (h : St s o M) (hb : WB n b) (hn : n ≤ 10) (hsd : 0 < b.sd.length) : wF F_law_otherwise [.ref s, b.d] M (OPost s o n M) := by
  refine wF_fn rfl ?_
  unfold m_law_otherwise Bed.d Bed.fl
  have sl := hb.sl
  have hw := hb.w
  have hh := hb.h
  have kl := hb.ks
  have eb : ∀ M, opIx (.tup [b.ho, .tup [.int b.w, .int b.h], .tup (b.sd.map sdD)]) (.int 1) M = some (.tup [.int b.w, .int b.h], M) := fun M => ix_tup' atI_1
  try (simp (config := { maxSteps := 1000000 }) only [wS_seq, wS_nx, wS_expr, wS_ret, wS_retN, wS_asg, wS_par2, wS_par3, wS_sub, wS_if, wS_for, wS_brk, wS_cont, wS_pass, after_nx, after_rt, after_bk, after_ct, wE_bind, wE_pure, wE_mem, wE_var, wE_call, wE_bin, wE_un, wE_nil, wE_cons, wE_tup, wE_lst, wE_cb, wE_lenSet, wE_meth, wE_tOfE, wE_tTru, wE_tAnd, wE_tOr, wE_tNot, wE_tYes, wE_if, wE_and, wE_or, wE_not, wE_oNo, wE_oSome, wE_sl, wE_iOf, wE_iSeq, gN_f, gT_f, gsNil_f, gsCons_f, wM_some, wM_newL, wM_if, List.getElem?_cons_zero, List.getElem?_cons_succ, List.set_cons_zero, List.set_cons_succ, List.map_cons, List.map_nil, List.cons_append, List.nil_append, Nat.reduceSub, List.replicate_succ, List.replicate_zero, List.length_cons, List.length_nil, Nat.reduceAdd, Option.some.injEq, exists_eq_left', exists_eq_left, D.bl.injEq, D.int.injEq, List.cons.injEq, and_true, true_and, exists_and_left, reduceCtorEq, false_and, and_false, exists_false, exists_const, if_true, if_false, Bool.false_eq_true, wipeE, ite_true, ite_false, exists_and_right, DL.eq_int, DL.ne_int, DL.add_int, DL.sub_int', DL.cmp_int, wM_mul, wM_fdiv, wM_mod, wM_pow, wM_shl, wM_shr, tyD_str, truD_bl, ex1, ex2, exists_eq', exists_eq, Option.bind_some])
  refine (next_spec h (by decide) (by decide)).imp ?_
  rintro _ M1 ⟨way, rfl, w0, w1, s1, g1⟩
  try (simp (config := { maxSteps := 1000000 }) only [wS_seq, wS_nx, wS_expr, wS_ret, wS_retN, wS_asg, wS_par2, wS_par3, wS_sub, wS_if, wS_for, wS_brk, wS_cont, wS_pass, after_nx, after_rt, after_bk, after_ct, wE_bind, wE_pure, wE_mem, wE_var, wE_call, wE_bin, wE_un, wE_nil, wE_cons, wE_tup, wE_lst, wE_cb, wE_lenSet, wE_meth, wE_tOfE, wE_tTru, wE_tAnd, wE_tOr, wE_tNot, wE_tYes, wE_if, wE_and, wE_or, wE_not, wE_oNo, wE_oSome, wE_sl, wE_iOf, wE_iSeq, gN_f, gT_f, gsNil_f, gsCons_f, wM_some, wM_newL, wM_if, List.getElem?_cons_zero, List.getElem?_cons_succ, List.set_cons_zero, List.set_cons_succ, List.map_cons, List.map_nil, List.cons_append, List.nil_append, Nat.reduceSub, List.replicate_succ, List.replicate_zero, List.length_cons, List.length_nil, Nat.reduceAdd, Option.some.injEq, exists_eq_left', exists_eq_left, D.bl.injEq, D.int.injEq, List.cons.injEq, and_true, true_and, exists_and_left, reduceCtorEq, false_and, and_false, exists_false, exists_const, if_true, if_false, Bool.false_eq_true, wipeE, ite_true, ite_false, exists_and_right, DL.eq_int, DL.ne_int, DL.add_int, DL.sub_int', DL.cmp_int, wM_mul, wM_fdiv, wM_mod, wM_pow, wM_shl, wM_shr, tyD_str, truD_bl, ex1, ex2, exists_eq', exists_eq, Option.bind_some, eb])
  by_cases q : way < 4
  · try (simp (config := { maxSteps := 1000000 }) only [wS_seq, wS_nx, wS_expr, wS_ret, wS_retN, wS_asg, wS_par2, wS_par3, wS_sub, wS_if, wS_for, wS_brk, wS_cont, wS_pass, after_nx, after_rt, after_bk, after_ct, wE_bind, wE_pure, wE_mem, wE_var, wE_call, wE_bin, wE_un, wE_nil, wE_cons, wE_tup, wE_lst, wE_cb, wE_lenSet, wE_meth, wE_tOfE, wE_tTru, wE_tAnd, wE_tOr, wE_tNot, wE_tYes, wE_if, wE_and, wE_or, wE_not, wE_oNo, wE_oSome, wE_sl, wE_iOf, wE_iSeq, gN_f, gT_f, gsNil_f, gsCons_f, wM_some, wM_newL, wM_if, List.getElem?_cons_zero, List.getElem?_cons_succ, List.set_cons_zero, List.set_cons_succ, List.map_cons, List.map_nil, List.cons_append, List.nil_append, Nat.reduceSub, List.replicate_succ, List.replicate_zero, List.length_cons, List.length_nil, Nat.reduceAdd, Option.some.injEq, exists_eq_left', exists_eq_left, D.bl.injEq, D.int.injEq, List.cons.injEq, and_true, true_and, exists_and_left, reduceCtorEq, false_and, and_false, exists_false, exists_const, if_true, if_false, Bool.false_eq_true, wipeE, ite_true, ite_false, exists_and_right, DL.eq_int, DL.ne_int, DL.add_int, DL.sub_int', DL.cmp_int, wM_mul, wM_fdiv, wM_mod, wM_pow, wM_shl, wM_shr, tyD_str, truD_bl, ex1, ex2, exists_eq', exists_eq, Option.bind_some, q, decide_true])
    refine (ho_otherwise s1 hb hn).imp ?_
    rintro _ M2 ⟨b', rfl, hb', ew, eh, es, s2, g2⟩
    refine ⟨size_le (by decide), b', ?_, hb', s2, g1.trans g2⟩
    unfold Bed.d Bed.fl
    rw [ew, eh, es]
  try (simp (config := { maxSteps := 1000000 }) only [wS_seq, wS_nx, wS_expr, wS_ret, wS_retN, wS_asg, wS_par2, wS_par3, wS_sub, wS_if, wS_for, wS_brk, wS_cont, wS_pass, after_nx, after_rt, after_bk, after_ct, wE_bind, wE_pure, wE_mem, wE_var, wE_call, wE_bin, wE_un, wE_nil, wE_cons, wE_tup, wE_lst, wE_cb, wE_lenSet, wE_meth, wE_tOfE, wE_tTru, wE_tAnd, wE_tOr, wE_tNot, wE_tYes, wE_if, wE_and, wE_or, wE_not, wE_oNo, wE_oSome, wE_sl, wE_iOf, wE_iSeq, gN_f, gT_f, gsNil_f, gsCons_f, wM_some, wM_newL, wM_if, List.getElem?_cons_zero, List.getElem?_cons_succ, List.set_cons_zero, List.set_cons_succ, List.map_cons, List.map_nil, List.cons_append, List.nil_append, Nat.reduceSub, List.replicate_succ, List.replicate_zero, List.length_cons, List.length_nil, Nat.reduceAdd, Option.some.injEq, exists_eq_left', exists_eq_left, D.bl.injEq, D.int.injEq, List.cons.injEq, and_true, true_and, exists_and_left, reduceCtorEq, false_and, and_false, exists_false, exists_const, if_true, if_false, Bool.false_eq_true, wipeE, ite_true, ite_false, exists_and_right, DL.eq_int, DL.ne_int, DL.add_int, DL.sub_int', DL.cmp_int, wM_mul, wM_fdiv, wM_mod, wM_pow, wM_shl, wM_shr, tyD_str, truD_bl, ex1, ex2, exists_eq', exists_eq, Option.bind_some, q, decide_false, len_tup, List.length_map])
  refine (next_spec s1 (by omega) (by omega)).imp ?_
  rintro _ M2 ⟨at_, rfl, a0, a1, s2, g2⟩
  have g12 := g1.trans g2
  have e0 : ((at_.toNat : Nat) : Int) = at_ := Int.toNat_of_nonneg a0
  by_cases q4 : way = 4
  · have e1 : ∀ M, opSl (.tup (b.sd.map sdD)) none (some at_) M = some (.tup ((b.sd.take at_.toNat).map sdD), M) := fun M => by rw [sl_tup', cutD_take e0.symm (by rw [List.length_map]; omega), List.map_take]
    have e2 : ∀ M, opSl (.tup (b.sd.map sdD)) (some (at_ + 1)) none M = some (.tup ((b.sd.drop (at_.toNat + 1)).map sdD), M) := fun M => by rw [sl_tup', cutD_drop (j := at_.toNat + 1) (by omega) (by rw [List.length_map]; omega), List.map_drop]
    have e3 : ∀ M, opAdd (.tup ((b.sd.take at_.toNat).map sdD)) (.tup ((b.sd.drop (at_.toNat + 1)).map sdD)) M = some (.tup ((b.sd.take at_.toNat ++ b.sd.drop (at_.toNat + 1)).map sdD), M) := fun M => by
      rw [add_tup' (by rw [List.length_map, List.length_map, List.length_take, List.length_drop]; omega), List.map_append]
    try (simp (config := { maxSteps := 1000000 }) only [wS_seq, wS_nx, wS_expr, wS_ret, wS_retN, wS_asg, wS_par2, wS_par3, wS_sub, wS_if, wS_for, wS_brk, wS_cont, wS_pass, after_nx, after_rt, after_bk, after_ct, wE_bind, wE_pure, wE_mem, wE_var, wE_call, wE_bin, wE_un, wE_nil, wE_cons, wE_tup, wE_lst, wE_cb, wE_lenSet, wE_meth, wE_tOfE, wE_tTru, wE_tAnd, wE_tOr, wE_tNot, wE_tYes, wE_if, wE_and, wE_or, wE_not, wE_oNo, wE_oSome, wE_sl, wE_iOf, wE_iSeq, gN_f, gT_f, gsNil_f, gsCons_f, wM_some, wM_newL, wM_if, List.getElem?_cons_zero, List.getElem?_cons_succ, List.set_cons_zero, List.set_cons_succ, List.map_cons, List.map_nil, List.cons_append, List.nil_append, Nat.reduceSub, List.replicate_succ, List.replicate_zero, List.length_cons, List.length_nil, Nat.reduceAdd, Option.some.injEq, exists_eq_left', exists_eq_left, D.bl.injEq, D.int.injEq, List.cons.injEq, and_true, true_and, exists_and_left, reduceCtorEq, false_and, and_false, exists_false, exists_const, if_true, if_false, Bool.false_eq_true, wipeE, ite_true, ite_false, exists_and_right, DL.eq_int, DL.ne_int, DL.add_int, DL.sub_int', DL.cmp_int, wM_mul, wM_fdiv, wM_mod, wM_pow, wM_shl, wM_shr, tyD_str, truD_bl, ex1, ex2, exists_eq', exists_eq, Option.bind_some, q4, decide_true, e1, e2, e3])
    have hsub : (b.sd.take at_.toNat ++ b.sd.drop (at_.toNat + 1)).Sublist b.sd := by
      have := List.Sublist.append (List.Sublist.refl (b.sd.take at_.toNat)) (List.drop_sublist 1 (b.sd.drop at_.toNat))
      rw [List.take_append_drop, List.drop_drop] at this
      exact this
    refine ⟨size_le (by decide), { b with sd := b.sd.take at_.toNat ++ b.sd.drop (at_.toNat + 1) }, rfl, hb.sds ?_ (hb.up.sublist hsub) (fun t ht => hb.fl t (hsub.subset ht)), s2, g12⟩
    have := hsub.length_le
    omega
  try (simp (config := { maxSteps := 1000000 }) only [wS_seq, wS_nx, wS_expr, wS_ret, wS_retN, wS_asg, wS_par2, wS_par3, wS_sub, wS_if, wS_for, wS_brk, wS_cont, wS_pass, after_nx, after_rt, after_bk, after_ct, wE_bind, wE_pure, wE_mem, wE_var, wE_call, wE_bin, wE_un, wE_nil, wE_cons, wE_tup, wE_lst, wE_cb, wE_lenSet, wE_meth, wE_tOfE, wE_tTru, wE_tAnd, wE_tOr, wE_tNot, wE_tYes, wE_if, wE_and, wE_or, wE_not, wE_oNo, wE_oSome, wE_sl, wE_iOf, wE_iSeq, gN_f, gT_f, gsNil_f, gsCons_f, wM_some, wM_newL, wM_if, List.getElem?_cons_zero, List.getElem?_cons_succ, List.set_cons_zero, List.set_cons_succ, List.map_cons, List.map_nil, List.cons_append, List.nil_append, Nat.reduceSub, List.replicate_succ, List.replicate_zero, List.length_cons, List.length_nil, Nat.reduceAdd, Option.some.injEq, exists_eq_left', exists_eq_left, D.bl.injEq, D.int.injEq, List.cons.injEq, and_true, true_and, exists_and_left, reduceCtorEq, false_and, and_false, exists_false, exists_const, if_true, if_false, Bool.false_eq_true, wipeE, ite_true, ite_false, exists_and_right, DL.eq_int, DL.ne_int, DL.add_int, DL.sub_int', DL.cmp_int, wM_mul, wM_fdiv, wM_mod, wM_pow, wM_shl, wM_shr, tyD_str, truD_bl, ex1, ex2, exists_eq', exists_eq, Option.bind_some, q4, decide_false])
  by_cases q5 : way = 5
  · obtain ⟨t, ht, htm, et⟩ := atI_map (f := sdD) (l := b.sd) a0 a1
    have e1 : ∀ M, opIx (.tup (b.sd.map sdD)) (.int at_) M = some (sdD t, M) := fun M => ix_tup' et
    have e2 : ∀ M, opSl (sdD t) none (some 2) M = some (.tup [.int t.1, .int t.2.1], M) := fun M => rfl
    have e3 : ∀ M, opIx b.ho (.int 2) M = some (.tup (b.ks.map Kd.d), M) := fun M => ix_tup' atI_2
    have e4 : ∀ (x y z : D) M, opAdd (.tup [x, y]) (.tup [z]) M = some (.tup [x, y, z], M) := fun x y z M => add_tup' (by simp)
    try (simp (config := { maxSteps := 1000000 }) only [wS_seq, wS_nx, wS_expr, wS_ret, wS_retN, wS_asg, wS_par2, wS_par3, wS_sub, wS_if, wS_for, wS_brk, wS_cont, wS_pass, after_nx, after_rt, after_bk, after_ct, wE_bind, wE_pure, wE_mem, wE_var, wE_call, wE_bin, wE_un, wE_nil, wE_cons, wE_tup, wE_lst, wE_cb, wE_lenSet, wE_meth, wE_tOfE, wE_tTru, wE_tAnd, wE_tOr, wE_tNot, wE_tYes, wE_if, wE_and, wE_or, wE_not, wE_oNo, wE_oSome, wE_sl, wE_iOf, wE_iSeq, gN_f, gT_f, gsNil_f, gsCons_f, wM_some, wM_newL, wM_if, List.getElem?_cons_zero, List.getElem?_cons_succ, List.set_cons_zero, List.set_cons_succ, List.map_cons, List.map_nil, List.cons_append, List.nil_append, Nat.reduceSub, List.replicate_succ, List.replicate_zero, List.length_cons, List.length_nil, Nat.reduceAdd, Option.some.injEq, exists_eq_left', exists_eq_left, D.bl.injEq, D.int.injEq, List.cons.injEq, and_true, true_and, exists_and_left, reduceCtorEq, false_and, and_false, exists_false, exists_const, if_true, if_false, Bool.false_eq_true, wipeE, ite_true, ite_false, exists_and_right, DL.eq_int, DL.ne_int, DL.add_int, DL.sub_int', DL.cmp_int, wM_mul, wM_fdiv, wM_mod, wM_pow, wM_shl, wM_shr, tyD_str, truD_bl, ex1, ex2, exists_eq', exists_eq, Option.bind_some, q5, decide_true, e1, e2, e3, len_tup, List.length_map])
    refine (next_spec s2 (by omega) (by omega)).imp ?_
    rintro _ M3 ⟨r, rfl, r0, r1, s3, g3⟩
    try (simp (config := { maxSteps := 1000000 }) only [wS_seq, wS_nx, wS_expr, wS_ret, wS_retN, wS_asg, wS_par2, wS_par3, wS_sub, wS_if, wS_for, wS_brk, wS_cont, wS_pass, after_nx, after_rt, after_bk, after_ct, wE_bind, wE_pure, wE_mem, wE_var, wE_call, wE_bin, wE_un, wE_nil, wE_cons, wE_tup, wE_lst, wE_cb, wE_lenSet, wE_meth, wE_tOfE, wE_tTru, wE_tAnd, wE_tOr, wE_tNot, wE_tYes, wE_if, wE_and, wE_or, wE_not, wE_oNo, wE_oSome, wE_sl, wE_iOf, wE_iSeq, gN_f, gT_f, gsNil_f, gsCons_f, wM_some, wM_newL, wM_if, List.getElem?_cons_zero, List.getElem?_cons_succ, List.set_cons_zero, List.set_cons_succ, List.map_cons, List.map_nil, List.cons_append, List.nil_append, Nat.reduceSub, List.replicate_succ, List.replicate_zero, List.length_cons, List.length_nil, Nat.reduceAdd, Option.some.injEq, exists_eq_left', exists_eq_left, D.bl.injEq, D.int.injEq, List.cons.injEq, and_true, true_and, exists_and_left, reduceCtorEq, false_and, and_false, exists_false, exists_const, if_true, if_false, Bool.false_eq_true, wipeE, ite_true, ite_false, exists_and_right, DL.eq_int, DL.ne_int, DL.add_int, DL.sub_int', DL.cmp_int, wM_mul, wM_fdiv, wM_mod, wM_pow, wM_shl, wM_shr, tyD_str, truD_bl, ex1, ex2, exists_eq', exists_eq, Option.bind_some, e4])
    refine ⟨size_le (by decide), ?_⟩
    refine (with_spec a0 (by rw [List.length_map]; exact a1) (by rw [List.length_map]; omega)).imp ?_
    rintro _ M6 ⟨rfl, rfl⟩
    have hmp : (b.sd.set at_.toNat (t.1, t.2.1, r)).map plc = b.sd.map plc := by
      have hg : (b.sd.map plc)[at_.toNat]? = some (plc t) := by rw [List.getElem?_map, ht]; rfl
      obtain ⟨hl, hg⟩ := List.getElem?_eq_some_iff.mp hg
      rw [List.map_set, show plc (t.1, t.2.1, r) = plc t from rfl, ← hg, List.set_getElem_self]
    refine ⟨size_le (by decide), { b with sd := b.sd.set at_.toNat (t.1, t.2.1, r) }, ?_, hb.sds (by rw [List.length_set]; omega) ?_ ?_, s3, g12.trans g3⟩
    · unfold Bed.d
      dsimp only
      rw [← set_map]
      rfl
    · have h1 := hb.up
      rw [← List.pairwise_map (f := plc) (R := LtP)] at h1 ⊢
      rw [hmp]
      exact h1
    · intro u hu
      rcases mem_set hu with hu | rfl
      · exact hb.fl u hu
      · exact hb.fl t htm
  try (simp (config := { maxSteps := 1000000 }) only [wS_seq, wS_nx, wS_expr, wS_ret, wS_retN, wS_asg, wS_par2, wS_par3, wS_sub, wS_if, wS_for, wS_brk, wS_cont, wS_pass, after_nx, after_rt, after_bk, after_ct, wE_bind, wE_pure, wE_mem, wE_var, wE_call, wE_bin, wE_un, wE_nil, wE_cons, wE_tup, wE_lst, wE_cb, wE_lenSet, wE_meth, wE_tOfE, wE_tTru, wE_tAnd, wE_tOr, wE_tNot, wE_tYes, wE_if, wE_and, wE_or, wE_not, wE_oNo, wE_oSome, wE_sl, wE_iOf, wE_iSeq, gN_f, gT_f, gsNil_f, gsCons_f, wM_some, wM_newL, wM_if, List.getElem?_cons_zero, List.getElem?_cons_succ, List.set_cons_zero, List.set_cons_succ, List.map_cons, List.map_nil, List.cons_append, List.nil_append, Nat.reduceSub, List.replicate_succ, List.replicate_zero, List.length_cons, List.length_nil, Nat.reduceAdd, Option.some.injEq, exists_eq_left', exists_eq_left, D.bl.injEq, D.int.injEq, List.cons.injEq, and_true, true_and, exists_and_left, reduceCtorEq, false_and, and_false, exists_false, exists_const, if_true, if_false, Bool.false_eq_true, wipeE, ite_true, ite_false, exists_and_right, DL.eq_int, DL.ne_int, DL.add_int, DL.sub_int', DL.cmp_int, wM_mul, wM_fdiv, wM_mod, wM_pow, wM_shl, wM_shr, tyD_str, truD_bl, ex1, ex2, exists_eq', exists_eq, Option.bind_some, q5, decide_false])
  by_cases q6 : way = 6
  · try (simp (config := { maxSteps := 1000000 }) only [wS_seq, wS_nx, wS_expr, wS_ret, wS_retN, wS_asg, wS_par2, wS_par3, wS_sub, wS_if, wS_for, wS_brk, wS_cont, wS_pass, after_nx, after_rt, after_bk, after_ct, wE_bind, wE_pure, wE_mem, wE_var, wE_call, wE_bin, wE_un, wE_nil, wE_cons, wE_tup, wE_lst, wE_cb, wE_lenSet, wE_meth, wE_tOfE, wE_tTru, wE_tAnd, wE_tOr, wE_tNot, wE_tYes, wE_if, wE_and, wE_or, wE_not, wE_oNo, wE_oSome, wE_sl, wE_iOf, wE_iSeq, gN_f, gT_f, gsNil_f, gsCons_f, wM_some, wM_newL, wM_if, List.getElem?_cons_zero, List.getElem?_cons_succ, List.set_cons_zero, List.set_cons_succ, List.map_cons, List.map_nil, List.cons_append, List.nil_append, Nat.reduceSub, List.replicate_succ, List.replicate_zero, List.length_cons, List.length_nil, Nat.reduceAdd, Option.some.injEq, exists_eq_left', exists_eq_left, D.bl.injEq, D.int.injEq, List.cons.injEq, and_true, true_and, exists_and_left, reduceCtorEq, false_and, and_false, exists_false, exists_const, if_true, if_false, Bool.false_eq_true, wipeE, ite_true, ite_false, exists_and_right, DL.eq_int, DL.ne_int, DL.add_int, DL.sub_int', DL.cmp_int, wM_mul, wM_fdiv, wM_mod, wM_pow, wM_shl, wM_shr, tyD_str, truD_bl, ex1, ex2, exists_eq', exists_eq, Option.bind_some, q6, decide_true])
    refine lc_all (fun d => match d with | .tup (x :: y :: _) => .tup [x, y] | _ => .non) ?_
    try (simp (config := { maxSteps := 1000000 }) only [wS_seq, wS_nx, wS_expr, wS_ret, wS_retN, wS_asg, wS_par2, wS_par3, wS_sub, wS_if, wS_for, wS_brk, wS_cont, wS_pass, after_nx, after_rt, after_bk, after_ct, wE_bind, wE_pure, wE_mem, wE_var, wE_call, wE_bin, wE_un, wE_nil, wE_cons, wE_tup, wE_lst, wE_cb, wE_lenSet, wE_meth, wE_tOfE, wE_tTru, wE_tAnd, wE_tOr, wE_tNot, wE_tYes, wE_if, wE_and, wE_or, wE_not, wE_oNo, wE_oSome, wE_sl, wE_iOf, wE_iSeq, gN_f, gT_f, gsNil_f, gsCons_f, wM_some, wM_newL, wM_if, List.getElem?_cons_zero, List.getElem?_cons_succ, List.set_cons_zero, List.set_cons_succ, List.map_cons, List.map_nil, List.cons_append, List.nil_append, Nat.reduceSub, List.replicate_succ, List.replicate_zero, List.length_cons, List.length_nil, Nat.reduceAdd, Option.some.injEq, exists_eq_left', exists_eq_left, D.bl.injEq, D.int.injEq, List.cons.injEq, and_true, true_and, exists_and_left, reduceCtorEq, false_and, and_false, exists_false, exists_const, if_true, if_false, Bool.false_eq_true, wipeE, ite_true, ite_false, exists_and_right, DL.eq_int, DL.ne_int, DL.add_int, DL.sub_int', DL.cmp_int, wM_mul, wM_fdiv, wM_mod, wM_pow, wM_shl, wM_shr, tyD_str, truD_bl, ex1, ex2, exists_eq', exists_eq, Option.bind_some, itSeq_tup])
    refine ⟨fun _ => trivial, by rw [List.length_map]; omega, ?_, ?_⟩
    · intro x hx
      obtain ⟨t, _, rfl⟩ := List.mem_map.mp hx
      have f2 : ∀ M, opSl (sdD t) none (some 2) M = some (.tup [.int t.1, .int t.2.1], M) := fun M => rfl
      intro acc
      try (simp (config := { maxSteps := 1000000 }) only [wS_seq, wS_nx, wS_expr, wS_ret, wS_retN, wS_asg, wS_par2, wS_par3, wS_sub, wS_if, wS_for, wS_brk, wS_cont, wS_pass, after_nx, after_rt, after_bk, after_ct, wE_bind, wE_pure, wE_mem, wE_var, wE_call, wE_bin, wE_un, wE_nil, wE_cons, wE_tup, wE_lst, wE_cb, wE_lenSet, wE_meth, wE_tOfE, wE_tTru, wE_tAnd, wE_tOr, wE_tNot, wE_tYes, wE_if, wE_and, wE_or, wE_not, wE_oNo, wE_oSome, wE_sl, wE_iOf, wE_iSeq, gN_f, gT_f, gsNil_f, gsCons_f, wM_some, wM_newL, wM_if, List.getElem?_cons_zero, List.getElem?_cons_succ, List.set_cons_zero, List.set_cons_succ, List.map_cons, List.map_nil, List.cons_append, List.nil_append, Nat.reduceSub, List.replicate_succ, List.replicate_zero, List.length_cons, List.length_nil, Nat.reduceAdd, Option.some.injEq, exists_eq_left', exists_eq_left, D.bl.injEq, D.int.injEq, List.cons.injEq, and_true, true_and, exists_and_left, reduceCtorEq, false_and, and_false, exists_false, exists_const, if_true, if_false, Bool.false_eq_true, wipeE, ite_true, ite_false, exists_and_right, DL.eq_int, DL.ne_int, DL.add_int, DL.sub_int', DL.cmp_int, wM_mul, wM_fdiv, wM_mod, wM_pow, wM_shl, wM_shr, tyD_str, truD_bl, ex1, ex2, exists_eq', exists_eq, Option.bind_some, f2])
      rfl
    · rw [List.map_map, show b.sd.map ((fun d => match d with | D.tup (x :: y :: _) => .tup [x, y] | _ => .non) ∘ sdD) = (b.sd.map plc).map ppD by rw [List.map_map]; rfl]
      refine ⟨size_le (by decide), ?_⟩
      try (simp (config := { maxSteps := 1000000 }) only [wS_seq, wS_nx, wS_expr, wS_ret, wS_retN, wS_asg, wS_par2, wS_par3, wS_sub, wS_if, wS_for, wS_brk, wS_cont, wS_pass, after_nx, after_rt, after_bk, after_ct, wE_bind, wE_pure, wE_mem, wE_var, wE_call, wE_bin, wE_un, wE_nil, wE_cons, wE_tup, wE_lst, wE_cb, wE_lenSet, wE_meth, wE_tOfE, wE_tTru, wE_tAnd, wE_tOr, wE_tNot, wE_tYes, wE_if, wE_and, wE_or, wE_not, wE_oNo, wE_oSome, wE_sl, wE_iOf, wE_iSeq, gN_f, gT_f, gsNil_f, gsCons_f, wM_some, wM_newL, wM_if, List.getElem?_cons_zero, List.getElem?_cons_succ, List.set_cons_zero, List.set_cons_succ, List.map_cons, List.map_nil, List.cons_append, List.nil_append, Nat.reduceSub, List.replicate_succ, List.replicate_zero, List.length_cons, List.length_nil, Nat.reduceAdd, Option.some.injEq, exists_eq_left', exists_eq_left, D.bl.injEq, D.int.injEq, List.cons.injEq, and_true, true_and, exists_and_left, reduceCtorEq, false_and, and_false, exists_false, exists_const, if_true, if_false, Bool.false_eq_true, wipeE, ite_true, ite_false, exists_and_right, DL.eq_int, DL.ne_int, DL.add_int, DL.sub_int', DL.cmp_int, wM_mul, wM_fdiv, wM_mod, wM_pow, wM_shl, wM_shr, tyD_str, truD_bl, ex1, ex2, exists_eq', exists_eq, Option.bind_some, rng1_ok (show -(2 ^ 62) ≤ b.w ∧ b.w < 2 ^ 62 by omega)])
      have l8 : (M2 ++ [MO.lst ((b.sd.map plc).map ppD)])[M2.length]? = some (.lst ((b.sd.map plc).map ppD)) := get_new
      have sN := s2.app (N := [MO.lst ((b.sd.map plc).map ppD)])
      have gN : Go [s, o] M (M2 ++ [MO.lst ((b.sd.map plc).map ppD)]) := g12.appN
      have hs2 := s2.lt
      have l8s : M2.length ∉ [s, o] := by simp; omega
      generalize hN : M2 ++ [MO.lst ((b.sd.map plc).map ppD)] = N0 at l8 sN gN
      have hsN := sN.lt
      have lt8 := lt_of l8
      refine wp_for0 (fun j ρ M' => (∃ a, ρ = [some (.ref s), some (.tup [b.ho, .tup [.int b.w, .int b.h], .tup (b.sd.map sdD)]), some b.ho, some (.int b.w), some (.int b.h), some (.tup (b.sd.map sdD)), some (.int 6), some (.int at_), some (.ref M2.length), some (.ref N0.length), a, none, none, none]) ∧ (∃ fr : List (Int × Int), M'[N0.length]? = some (.lst (fr.map ppD)) ∧ fr.length ≤ j * 12 ∧ ∀ p ∈ fr, 0 ≤ p.1 ∧ p.1 < b.w ∧ 0 ≤ p.2 ∧ p.2 < b.h ∧ p ∉ b.sd.map plc) ∧ St s o M' ∧ Go [s, o] N0 M') ?_ ?_ ?_
      · exact ⟨⟨_, rfl⟩, ⟨[], get_new, by simp, by simp⟩, sN.app, Go.app⟩
      · rintro j x ρ M3 hj ⟨⟨a, rfl⟩, ⟨fr, e3, fl, fo⟩, s3, g3⟩
        obtain ⟨rfl, jl⟩ := upto_at hj
        have k3 := g3.get l8 l8s
        refine ⟨rfl, _, rfl, ?_⟩
        try (simp (config := { maxSteps := 1000000 }) only [wS_seq, wS_nx, wS_expr, wS_ret, wS_retN, wS_asg, wS_par2, wS_par3, wS_sub, wS_if, wS_for, wS_brk, wS_cont, wS_pass, after_nx, after_rt, after_bk, after_ct, wE_bind, wE_pure, wE_mem, wE_var, wE_call, wE_bin, wE_un, wE_nil, wE_cons, wE_tup, wE_lst, wE_cb, wE_lenSet, wE_meth, wE_tOfE, wE_tTru, wE_tAnd, wE_tOr, wE_tNot, wE_tYes, wE_if, wE_and, wE_or, wE_not, wE_oNo, wE_oSome, wE_sl, wE_iOf, wE_iSeq, gN_f, gT_f, gsNil_f, gsCons_f, wM_some, wM_newL, wM_if, List.getElem?_cons_zero, List.getElem?_cons_succ, List.set_cons_zero, List.set_cons_succ, List.map_cons, List.map_nil, List.cons_append, List.nil_append, Nat.reduceSub, List.replicate_succ, List.replicate_zero, List.length_cons, List.length_nil, Nat.reduceAdd, Option.some.injEq, exists_eq_left', exists_eq_left, D.bl.injEq, D.int.injEq, List.cons.injEq, and_true, true_and, exists_and_left, reduceCtorEq, false_and, and_false, exists_false, exists_const, if_true, if_false, Bool.false_eq_true, wipeE, ite_true, ite_false, exists_and_right, DL.eq_int, DL.ne_int, DL.add_int, DL.sub_int', DL.cmp_int, wM_mul, wM_fdiv, wM_mod, wM_pow, wM_shl, wM_shr, tyD_str, truD_bl, ex1, ex2, exists_eq', exists_eq, Option.bind_some, ty_lst e3])
        refine lc_pure (fun d => !decide (D.tup [.int (j : Nat), d] ∈ (b.sd.map plc).map ppD)) (fun d => .tup [.int (j : Nat), d]) ?_
        try (simp (config := { maxSteps := 1000000 }) only [wS_seq, wS_nx, wS_expr, wS_ret, wS_retN, wS_asg, wS_par2, wS_par3, wS_sub, wS_if, wS_for, wS_brk, wS_cont, wS_pass, after_nx, after_rt, after_bk, after_ct, wE_bind, wE_pure, wE_mem, wE_var, wE_call, wE_bin, wE_un, wE_nil, wE_cons, wE_tup, wE_lst, wE_cb, wE_lenSet, wE_meth, wE_tOfE, wE_tTru, wE_tAnd, wE_tOr, wE_tNot, wE_tYes, wE_if, wE_and, wE_or, wE_not, wE_oNo, wE_oSome, wE_sl, wE_iOf, wE_iSeq, gN_f, gT_f, gsNil_f, gsCons_f, wM_some, wM_newL, wM_if, List.getElem?_cons_zero, List.getElem?_cons_succ, List.set_cons_zero, List.set_cons_succ, List.map_cons, List.map_nil, List.cons_append, List.nil_append, Nat.reduceSub, List.replicate_succ, List.replicate_zero, List.length_cons, List.length_nil, Nat.reduceAdd, Option.some.injEq, exists_eq_left', exists_eq_left, D.bl.injEq, D.int.injEq, List.cons.injEq, and_true, true_and, exists_and_left, reduceCtorEq, false_and, and_false, exists_false, exists_const, if_true, if_false, Bool.false_eq_true, wipeE, ite_true, ite_false, exists_and_right, DL.eq_int, DL.ne_int, DL.add_int, DL.sub_int', DL.cmp_int, wM_mul, wM_fdiv, wM_mod, wM_pow, wM_shl, wM_shr, tyD_str, truD_bl, ex1, ex2, exists_eq', exists_eq, Option.bind_some, rng1_ok (show -(2 ^ 62) ≤ b.h ∧ b.h < 2 ^ 62 by omega)])
        refine ⟨fun _ => trivial, by rw [upto_nat, List.length_map, List.length_range]; omega, ?_, ?_⟩
        · intro x hx acc
          obtain ⟨y, hy, rfl⟩ := mem_upto hx
          have e5 : opNotIn (.tup [.int (j : Nat), .int (y : Nat)]) (.ref M2.length) (M3 ++ [MO.lst acc]) = some (.bl (!decide (D.tup [.int (j : Nat), .int (y : Nat)] ∈ (b.sd.map plc).map ppD)), M3 ++ [MO.lst acc]) := notIn_of (inB_ref (d := ppD ((j : Int), (y : Int))) (get_app (N := [.lst acc]) k3) (ppD_pln (n := 38) _) (pps_pln _))
          try (simp (config := { maxSteps := 1000000 }) only [wS_seq, wS_nx, wS_expr, wS_ret, wS_retN, wS_asg, wS_par2, wS_par3, wS_sub, wS_if, wS_for, wS_brk, wS_cont, wS_pass, after_nx, after_rt, after_bk, after_ct, wE_bind, wE_pure, wE_mem, wE_var, wE_call, wE_bin, wE_un, wE_nil, wE_cons, wE_tup, wE_lst, wE_cb, wE_lenSet, wE_meth, wE_tOfE, wE_tTru, wE_tAnd, wE_tOr, wE_tNot, wE_tYes, wE_if, wE_and, wE_or, wE_not, wE_oNo, wE_oSome, wE_sl, wE_iOf, wE_iSeq, gN_f, gT_f, gsNil_f, gsCons_f, wM_some, wM_newL, wM_if, List.getElem?_cons_zero, List.getElem?_cons_succ, List.set_cons_zero, List.set_cons_succ, List.map_cons, List.map_nil, List.cons_append, List.nil_append, Nat.reduceSub, List.replicate_succ, List.replicate_zero, List.length_cons, List.length_nil, Nat.reduceAdd, Option.some.injEq, exists_eq_left', exists_eq_left, D.bl.injEq, D.int.injEq, List.cons.injEq, and_true, true_and, exists_and_left, reduceCtorEq, false_and, and_false, exists_false, exists_const, if_true, if_false, Bool.false_eq_true, wipeE, ite_true, ite_false, exists_and_right, DL.eq_int, DL.ne_int, DL.add_int, DL.sub_int', DL.cmp_int, wM_mul, wM_fdiv, wM_mod, wM_pow, wM_shl, wM_shr, tyD_str, truD_bl, ex1, ex2, exists_eq', exists_eq, Option.bind_some, e5])
          have z2 : 2 ≤ sizeLine := size_le (by decide)
          simp only [z2, true_and, and_true, implies_true]
        · generalize hX : ((List.range b.h.toNat).filter fun (y : Nat) => !decide (D.tup [.int (j : Nat), .int (y : Nat)] ∈ (b.sd.map plc).map ppD)).map (fun (y : Nat) => ((j : Int), (y : Int))) = X
          have hX2 : ((upto 0 b.h.toNat).filter fun d => !decide (D.tup [.int (j : Nat), d] ∈ (b.sd.map plc).map ppD)).map (fun d => D.tup [.int (j : Nat), d]) = X.map ppD := by
            rw [← hX, upto_nat, List.filter_map]
            simp only [List.map_map]
            rfl
          have hXl : X.length ≤ 12 := by
            rw [← hX, List.length_map]
            have := List.length_filter_le (fun (y : Nat) => !decide (D.tup [.int (j : Nat), .int (y : Nat)] ∈ (b.sd.map plc).map ppD)) (List.range b.h.toNat)
            rw [List.length_range] at this
            omega
          have hXm : ∀ p ∈ X, 0 ≤ p.1 ∧ p.1 < b.w ∧ 0 ≤ p.2 ∧ p.2 < b.h ∧ p ∉ b.sd.map plc := by
            intro p hp
            rw [← hX] at hp
            obtain ⟨y, hy, rfl⟩ := List.mem_map.mp hp
            obtain ⟨h1, h2⟩ := List.mem_filter.mp hy
            have := List.mem_range.mp h1
            refine ⟨by show (0 : Int) ≤ j; omega, by show (j : Int) < b.w; omega, by show (0 : Int) ≤ y; omega, by show (y : Int) < b.h; omega, fun hm => ?_⟩
            have h3 : ¬ D.tup [.int (j : Nat), .int (y : Nat)] ∈ (b.sd.map plc).map ppD := by simpa using h2
            exact h3 (ppD_mem.mpr hm)
          rw [hX2, extend_ref (get_app e3) get_new (size_le (by rw [List.length_map, List.length_map]; omega)), wM_some]
          have lt3 := lt_of e3
          refine ⟨⟨fr ++ X, by rw [get_set (get_app e3), List.map_append], by rw [List.length_append]; omega, fun p hp => ?_⟩, sN.setN s3.app (Nat.le_refl _), g3.appN.setN (Nat.le_refl _)⟩
          rcases List.mem_append.mp hp with hp | hp
          · exact fo p hp
          · exact hXm p hp
      · rintro ρ M3 ⟨⟨a, rfl⟩, ⟨fr, e3, fl, fo⟩, s3, g3⟩
        refine ⟨rfl, ?_⟩
        rw [upto_nat, List.length_map, List.length_range] at fl
        have e4 := cNil_lst (neg := true) e3 (pps_pln fr)
        try (simp (config := { maxSteps := 1000000 }) only [wS_seq, wS_nx, wS_expr, wS_ret, wS_retN, wS_asg, wS_par2, wS_par3, wS_sub, wS_if, wS_for, wS_brk, wS_cont, wS_pass, after_nx, after_rt, after_bk, after_ct, wE_bind, wE_pure, wE_mem, wE_var, wE_call, wE_bin, wE_un, wE_nil, wE_cons, wE_tup, wE_lst, wE_cb, wE_lenSet, wE_meth, wE_tOfE, wE_tTru, wE_tAnd, wE_tOr, wE_tNot, wE_tYes, wE_if, wE_and, wE_or, wE_not, wE_oNo, wE_oSome, wE_sl, wE_iOf, wE_iSeq, gN_f, gT_f, gsNil_f, gsCons_f, wM_some, wM_newL, wM_if, List.getElem?_cons_zero, List.getElem?_cons_succ, List.set_cons_zero, List.set_cons_succ, List.map_cons, List.map_nil, List.cons_append, List.nil_append, Nat.reduceSub, List.replicate_succ, List.replicate_zero, List.length_cons, List.length_nil, Nat.reduceAdd, Option.some.injEq, exists_eq_left', exists_eq_left, D.bl.injEq, D.int.injEq, List.cons.injEq, and_true, true_and, exists_and_left, reduceCtorEq, false_and, and_false, exists_false, exists_const, if_true, if_false, Bool.false_eq_true, wipeE, ite_true, ite_false, exists_and_right, DL.eq_int, DL.ne_int, DL.add_int, DL.sub_int', DL.cmp_int, wM_mul, wM_fdiv, wM_mod, wM_pow, wM_shl, wM_shr, tyD_str, truD_bl, ex1, ex2, exists_eq', exists_eq, Option.bind_some, e4])
        -- the new tile, if any
        have fin : ∀ (M4 : Mem) (l : Nat) (so : List (Int × Int × Int)), St s o M4 → Go [s, o] M M4 → M4[l]? = some (MO.lst (so.map sdD)) → so.length ≤ 1 → (∀ t ∈ so, 0 ≤ t.1 ∧ t.1 < b.w ∧ 0 ≤ t.2.1 ∧ t.2.1 < b.h ∧ plc t ∉ b.sd.map plc) → wM (cLst [.tup (b.sd.map sdD)] M4) fun x M1 => wM (opAdd x (.ref l) M1) fun x M1 => wM (cSorted [x] M1) fun x M1 => wM (cTup [x] M1) fun x M1 => 3 ≤ sizeLine ∧ OPost s o n M (.tup [b.ho, .tup [.int b.w, .int b.h], x]) M1 := by
          intro M4 l so s4 g4 h4 hl ho
          have c1 : cLst [.tup (b.sd.map sdD)] M4 = some (.ref M4.length, M4 ++ [MO.lst (b.sd.map sdD)]) := by
            unfold cLst
            dsimp only
            show newL (b.sd.map sdD) M4 = _
            unfold newL
            rw [if_pos (by rw [List.length_map]; exact size_le (by omega))]
          have c2 : opAdd (.ref M4.length) (.ref l) (M4 ++ [MO.lst (b.sd.map sdD)]) = some (.ref (M4 ++ [MO.lst (b.sd.map sdD)]).length, M4 ++ [MO.lst (b.sd.map sdD)] ++ [MO.lst ((b.sd ++ so).map sdD)]) := by
            show (match (M4 ++ [MO.lst (b.sd.map sdD)])[M4.length]?, (M4 ++ [MO.lst (b.sd.map sdD)])[l]? with
              | some (MO.lst xs), some (MO.lst ys) => newL (xs ++ ys) (M4 ++ [MO.lst (b.sd.map sdD)])
              | _, _ => none) = _
            rw [get_new, get_app h4]
            dsimp only
            unfold newL
            rw [if_pos (by rw [List.length_append, List.length_map, List.length_map]; exact size_le (by omega)), ← List.map_append]
          have hne : (b.sd ++ so).Pairwise fun t u => plc t ≠ plc u := by
            rw [List.pairwise_append]
            refine ⟨hb.up.imp fun {t u} h e => ?_, ?_, fun t ht u hu e => ?_⟩
            · rw [e] at h
              unfold LtP at h
              omega
            · rcases so with _ | ⟨x, _ | ⟨y, so⟩⟩
              · exact List.Pairwise.nil
              · simp
              · simp at hl
            · exact (ho u hu).2.2.2.2 (List.mem_map.mpr ⟨t, ht, e⟩)
          obtain ⟨us, hp, hup, c3⟩ := sorted_sd (l := (M4 ++ [MO.lst (b.sd.map sdD)]).length) (M := M4 ++ [MO.lst (b.sd.map sdD)] ++ [MO.lst ((b.sd ++ so).map sdD)]) get_new (by rw [List.length_append]; omega) hne
          rw [c1, wM_some, c2, wM_some, c3, wM_some, tup_ref get_new, wM_some]
          refine ⟨size_le (by decide), { b with sd := us }, rfl, hb.sds ?_ hup ?_, s4.app.app.app, g4.appN.appN.appN⟩
          · rw [hp.length_eq, List.length_append]
            omega
          · intro t ht
            rcases List.mem_append.mp (hp.mem_iff.mp ht) with ht | ht
            · exact hb.fl t ht
            · have := ho t ht
              omega
        cases fr with
        | nil =>
          try (simp (config := { maxSteps := 1000000 }) only [wS_seq, wS_nx, wS_expr, wS_ret, wS_retN, wS_asg, wS_par2, wS_par3, wS_sub, wS_if, wS_for, wS_brk, wS_cont, wS_pass, after_nx, after_rt, after_bk, after_ct, wE_bind, wE_pure, wE_mem, wE_var, wE_call, wE_bin, wE_un, wE_nil, wE_cons, wE_tup, wE_lst, wE_cb, wE_lenSet, wE_meth, wE_tOfE, wE_tTru, wE_tAnd, wE_tOr, wE_tNot, wE_tYes, wE_if, wE_and, wE_or, wE_not, wE_oNo, wE_oSome, wE_sl, wE_iOf, wE_iSeq, gN_f, gT_f, gsNil_f, gsCons_f, wM_some, wM_newL, wM_if, List.getElem?_cons_zero, List.getElem?_cons_succ, List.set_cons_zero, List.set_cons_succ, List.map_cons, List.map_nil, List.cons_append, List.nil_append, Nat.reduceSub, List.replicate_succ, List.replicate_zero, List.length_cons, List.length_nil, Nat.reduceAdd, Option.some.injEq, exists_eq_left', exists_eq_left, D.bl.injEq, D.int.injEq, List.cons.injEq, and_true, true_and, exists_and_left, reduceCtorEq, false_and, and_false, exists_false, exists_const, if_true, if_false, Bool.false_eq_true, wipeE, ite_true, ite_false, exists_and_right, DL.eq_int, DL.ne_int, DL.add_int, DL.sub_int', DL.cmp_int, wM_mul, wM_fdiv, wM_mod, wM_pow, wM_shl, wM_shr, tyD_str, truD_bl, ex1, ex2, exists_eq', exists_eq, Option.bind_some, List.map_nil, List.isEmpty_nil, Bool.not_true])
          refine ⟨size_le (by decide), ?_⟩
          rw [eb, wM_some]
          exact fin (M3 ++ [MO.lst []]) M3.length [] s3.app ((gN.trans g3).appN) get_new (by simp) (by simp)
        | cons p0 fr0 =>
          try (simp (config := { maxSteps := 1000000 }) only [wS_seq, wS_nx, wS_expr, wS_ret, wS_retN, wS_asg, wS_par2, wS_par3, wS_sub, wS_if, wS_for, wS_brk, wS_cont, wS_pass, after_nx, after_rt, after_bk, after_ct, wE_bind, wE_pure, wE_mem, wE_var, wE_call, wE_bin, wE_un, wE_nil, wE_cons, wE_tup, wE_lst, wE_cb, wE_lenSet, wE_meth, wE_tOfE, wE_tTru, wE_tAnd, wE_tOr, wE_tNot, wE_tYes, wE_if, wE_and, wE_or, wE_not, wE_oNo, wE_oSome, wE_sl, wE_iOf, wE_iSeq, gN_f, gT_f, gsNil_f, gsCons_f, wM_some, wM_newL, wM_if, List.getElem?_cons_zero, List.getElem?_cons_succ, List.set_cons_zero, List.set_cons_succ, List.map_cons, List.map_nil, List.cons_append, List.nil_append, Nat.reduceSub, List.replicate_succ, List.replicate_zero, List.length_cons, List.length_nil, Nat.reduceAdd, Option.some.injEq, exists_eq_left', exists_eq_left, D.bl.injEq, D.int.injEq, List.cons.injEq, and_true, true_and, exists_and_left, reduceCtorEq, false_and, and_false, exists_false, exists_const, if_true, if_false, Bool.false_eq_true, wipeE, ite_true, ite_false, exists_and_right, DL.eq_int, DL.ne_int, DL.add_int, DL.sub_int', DL.cmp_int, wM_mul, wM_fdiv, wM_mod, wM_pow, wM_shl, wM_shr, tyD_str, truD_bl, ex1, ex2, exists_eq', exists_eq, Option.bind_some, List.map_cons, List.isEmpty_cons, Bool.not_false])
          have hs3 := s3.lt
          rw [len_ref e3, wM_some, List.length_map]
          refine (next_spec s3 (by rw [List.length_cons]; omega) (by omega)).imp ?_
          rintro _ M4 ⟨i, rfl, i0, i1, s4, g4⟩
          obtain ⟨p, hp, hpm, ep⟩ := atI_map (f := ppD) (l := p0 :: fr0) i0 i1
          have e5 := g4.get e3 (by simp; omega)
          rw [ix_ref e5 ep, wM_some]
          refine ⟨size_le (by decide), ?_⟩
          rw [show opAdd (ppD p) (.tup [.int 0]) M4 = some (.tup [.int p.1, .int p.2, .int 0], M4) from add_tup' (by simp), wM_some]
          refine ⟨size_le (by decide), ?_⟩
          rw [eb, wM_some]
          refine fin (M4 ++ [MO.lst [.tup [.int p.1, .int p.2, .int 0]]]) M4.length [(p.1, p.2, 0)] s4.app ((gN.trans (g3.trans g4)).appN) get_new (Nat.le_refl _) ?_
          intro t ht
          rw [List.mem_singleton] at ht
          subst ht
          exact fo p hpm
  try (simp (config := { maxSteps := 1000000 }) only [wS_seq, wS_nx, wS_expr, wS_ret, wS_retN, wS_asg, wS_par2, wS_par3, wS_sub, wS_if, wS_for, wS_brk, wS_cont, wS_pass, after_nx, after_rt, after_bk, after_ct, wE_bind, wE_pure, wE_mem, wE_var, wE_call, wE_bin, wE_un, wE_nil, wE_cons, wE_tup, wE_lst, wE_cb, wE_lenSet, wE_meth, wE_tOfE, wE_tTru, wE_tAnd, wE_tOr, wE_tNot, wE_tYes, wE_if, wE_and, wE_or, wE_not, wE_oNo, wE_oSome, wE_sl, wE_iOf, wE_iSeq, gN_f, gT_f, gsNil_f, gsCons_f, wM_some, wM_newL, wM_if, List.getElem?_cons_zero, List.getElem?_cons_succ, List.set_cons_zero, List.set_cons_succ, List.map_cons, List.map_nil, List.cons_append, List.nil_append, Nat.reduceSub, List.replicate_succ, List.replicate_zero, List.length_cons, List.length_nil, Nat.reduceAdd, Option.some.injEq, exists_eq_left', exists_eq_left, D.bl.injEq, D.int.injEq, List.cons.injEq, and_true, true_and, exists_and_left, reduceCtorEq, false_and, and_false, exists_false, exists_const, if_true, if_false, Bool.false_eq_true, wipeE, ite_true, ite_false, exists_and_right, DL.eq_int, DL.ne_int, DL.add_int, DL.sub_int', DL.cmp_int, wM_mul, wM_fdiv, wM_mod, wM_pow, wM_shl, wM_shr, tyD_str, truD_bl, ex1, ex2, exists_eq', exists_eq, Option.bind_some, q6, decide_false])
  try (simp (config := { maxSteps := 1000000 }) only [wS_seq, wS_nx, wS_expr, wS_ret, wS_retN, wS_asg, wS_par2, wS_par3, wS_sub, wS_if, wS_for, wS_brk, wS_cont, wS_pass, after_nx, after_rt, after_bk, after_ct, wE_bind, wE_pure, wE_mem, wE_var, wE_call, wE_bin, wE_un, wE_nil, wE_cons, wE_tup, wE_lst, wE_cb, wE_lenSet, wE_meth, wE_tOfE, wE_tTru, wE_tAnd, wE_tOr, wE_tNot, wE_tYes, wE_if, wE_and, wE_or, wE_not, wE_oNo, wE_oSome, wE_sl, wE_iOf, wE_iSeq, gN_f, gT_f, gsNil_f, gsCons_f, wM_some, wM_newL, wM_if, List.getElem?_cons_zero, List.getElem?_cons_succ, List.set_cons_zero, List.set_cons_succ, List.map_cons, List.map_nil, List.cons_append, List.nil_append, Nat.reduceSub, List.replicate_succ, List.replicate_zero, List.length_cons, List.length_nil, Nat.reduceAdd, Option.some.injEq, exists_eq_left', exists_eq_left, D.bl.injEq, D.int.injEq, List.cons.injEq, and_true, true_and, exists_and_left, reduceCtorEq, false_and, and_false, exists_false, exists_const, if_true, if_false, Bool.false_eq_true, wipeE, ite_true, ite_false, exists_and_right, DL.eq_int, DL.ne_int, DL.add_int, DL.sub_int', DL.cmp_int, wM_mul, wM_fdiv, wM_mod, wM_pow, wM_shl, wM_shr, tyD_str, truD_bl, ex1, ex2, exists_eq', exists_eq, Option.bind_some, min2_int])
  generalize hm1 : (if b.w + 1 < 12 then b.w + 1 else 12) = m1
  generalize hm2 : (if b.h + 1 < 12 then b.h + 1 else 12) = m2
  have b1 : b.w ≤ m1 ∧ m1 ≤ 12 := by split at hm1 <;> omega
  have b2 : b.h ≤ m2 ∧ m2 ≤ 12 := by split at hm2 <;> omega
  refine ⟨size_le (by decide), size_le (by decide), size_le (by decide), ?_⟩
  refine (next_spec s2.app (by decide) (by decide)).imp ?_
  rintro _ M3 ⟨r, rfl, r0, r1, s3, g3⟩
  have e3 := g3.get (l := M2.length) get_new (by have := s2.lt; simp; omega)
  have hg : Go [s, o] M M3 := g12.trans (Go.app.trans g3)
  rcases (by omega : r = 0 ∨ r = 1) with rfl | rfl
  · try (simp (config := { maxSteps := 1000000 }) only [wS_seq, wS_nx, wS_expr, wS_ret, wS_retN, wS_asg, wS_par2, wS_par3, wS_sub, wS_if, wS_for, wS_brk, wS_cont, wS_pass, after_nx, after_rt, after_bk, after_ct, wE_bind, wE_pure, wE_mem, wE_var, wE_call, wE_bin, wE_un, wE_nil, wE_cons, wE_tup, wE_lst, wE_cb, wE_lenSet, wE_meth, wE_tOfE, wE_tTru, wE_tAnd, wE_tOr, wE_tNot, wE_tYes, wE_if, wE_and, wE_or, wE_not, wE_oNo, wE_oSome, wE_sl, wE_iOf, wE_iSeq, gN_f, gT_f, gsNil_f, gsCons_f, wM_some, wM_newL, wM_if, List.getElem?_cons_zero, List.getElem?_cons_succ, List.set_cons_zero, List.set_cons_succ, List.map_cons, List.map_nil, List.cons_append, List.nil_append, Nat.reduceSub, List.replicate_succ, List.replicate_zero, List.length_cons, List.length_nil, Nat.reduceAdd, Option.some.injEq, exists_eq_left', exists_eq_left, D.bl.injEq, D.int.injEq, List.cons.injEq, and_true, true_and, exists_and_left, reduceCtorEq, false_and, and_false, exists_false, exists_const, if_true, if_false, Bool.false_eq_true, wipeE, ite_true, ite_false, exists_and_right, DL.eq_int, DL.ne_int, DL.add_int, DL.sub_int', DL.cmp_int, wM_mul, wM_fdiv, wM_mod, wM_pow, wM_shl, wM_shr, tyD_str, truD_bl, ex1, ex2, exists_eq', exists_eq, Option.bind_some, ix_ref e3 atI_0])
    exact ⟨size_le (by decide), { b with w := m1 }, rfl, ⟨hb.st, hb.so, hb.mono.ks, hb.ko, ⟨(by show 0 < m1; omega), (by show m1 ≤ 12; omega)⟩, hb.h, hb.mono.sl, hb.up, fun t ht => by
      have := hb.fl t ht
      show 0 ≤ t.1 ∧ t.1 < m1 ∧ 0 ≤ t.2.1 ∧ t.2.1 < b.h
      omega⟩, s3, hg⟩
  · try (simp (config := { maxSteps := 1000000 }) only [wS_seq, wS_nx, wS_expr, wS_ret, wS_retN, wS_asg, wS_par2, wS_par3, wS_sub, wS_if, wS_for, wS_brk, wS_cont, wS_pass, after_nx, after_rt, after_bk, after_ct, wE_bind, wE_pure, wE_mem, wE_var, wE_call, wE_bin, wE_un, wE_nil, wE_cons, wE_tup, wE_lst, wE_cb, wE_lenSet, wE_meth, wE_tOfE, wE_tTru, wE_tAnd, wE_tOr, wE_tNot, wE_tYes, wE_if, wE_and, wE_or, wE_not, wE_oNo, wE_oSome, wE_sl, wE_iOf, wE_iSeq, gN_f, gT_f, gsNil_f, gsCons_f, wM_some, wM_newL, wM_if, List.getElem?_cons_zero, List.getElem?_cons_succ, List.set_cons_zero, List.set_cons_succ, List.map_cons, List.map_nil, List.cons_append, List.nil_append, Nat.reduceSub, List.replicate_succ, List.replicate_zero, List.length_cons, List.length_nil, Nat.reduceAdd, Option.some.injEq, exists_eq_left', exists_eq_left, D.bl.injEq, D.int.injEq, List.cons.injEq, and_true, true_and, exists_and_left, reduceCtorEq, false_and, and_false, exists_false, exists_const, if_true, if_false, Bool.false_eq_true, wipeE, ite_true, ite_false, exists_and_right, DL.eq_int, DL.ne_int, DL.add_int, DL.sub_int', DL.cmp_int, wM_mul, wM_fdiv, wM_mod, wM_pow, wM_shl, wM_shr, tyD_str, truD_bl, ex1, ex2, exists_eq', exists_eq, Option.bind_some, ix_ref e3 atI_1])
    exact ⟨size_le (by decide), { b with h := m2 }, rfl, ⟨hb.st, hb.so, hb.mono.ks, hb.ko, hb.w, ⟨(by show 0 < m2; omega), (by show m2 ≤ 12; omega)⟩, hb.mono.sl, hb.up, fun t ht => by
      have := hb.fl t ht
      show 0 ≤ t.1 ∧ t.1 < b.w ∧ 0 ≤ t.2.1 ∧ t.2.1 < m2
      omega⟩, s3, hg⟩
end G

namespace G
open PySem PySem.Spec PyProof.Rows L2 DL
def hasE (k : Kd) : Bool := decide (D.str "" ∈ [D.str k.n, .str k.e, .str k.s, .str k.w])
def framedB (b : Bed) : Bool := decide (b.en = 2) && (b.st.all fun p => decide (p.2 = 1)) && (b.ks.all fun k => !hasE k) && decide ((b.ks.map fun k => (k.s, k.e)).Nodup) && decide (b.sd.map plc = frameL b.w b.h)
theorem frame_of_spec {w h : Int} {M : Mem} (hw : 0 < w ∧ w ≤ 120) (hh : 0 < h ∧ h ≤ 120) : wF F_frame_of [.int w, .int h] M fun d M' => ∃ l, d = .ref l ∧ M.length ≤ l ∧ M'[l]? = some (.lst ((frameL w h).map ppD)) ∧ Go [] M M' := by
  refine wF_fn rfl ?_
  unfold m_frame_of
  try (simp (config := { maxSteps := 1000000 }) only [wS_seq, wS_nx, wS_expr, wS_ret, wS_retN, wS_asg, wS_par2, wS_par3, wS_sub, wS_if, wS_for, wS_brk, wS_cont, wS_pass, after_nx, after_rt, after_bk, after_ct, wE_bind, wE_pure, wE_mem, wE_var, wE_call, wE_bin, wE_un, wE_nil, wE_cons, wE_tup, wE_lst, wE_cb, wE_lenSet, wE_meth, wE_tOfE, wE_tTru, wE_tAnd, wE_tOr, wE_tNot, wE_tYes, wE_if, wE_and, wE_or, wE_not, wE_oNo, wE_oSome, wE_sl, wE_iOf, wE_iSeq, gN_f, gT_f, gsNil_f, gsCons_f, wM_some, wM_newL, wM_if, List.getElem?_cons_zero, List.getElem?_cons_succ, List.set_cons_zero, List.set_cons_succ, List.map_cons, List.map_nil, List.cons_append, List.nil_append, Nat.reduceSub, List.replicate_succ, List.replicate_zero, List.length_cons, List.length_nil, Nat.reduceAdd, Option.some.injEq, exists_eq_left', exists_eq_left, D.bl.injEq, D.int.injEq, List.cons.injEq, and_true, true_and, exists_and_left, reduceCtorEq, false_and, and_false, exists_false, exists_const, if_true, if_false, Bool.false_eq_true, wipeE, ite_true, ite_false, exists_and_right, DL.eq_int, DL.ne_int, DL.add_int, DL.sub_int', DL.cmp_int, wM_mul, wM_fdiv, wM_mod, wM_pow, wM_shl, wM_shr, tyD_str, truD_bl, ex1, ex2, exists_eq', exists_eq, Option.bind_some, rng1_ok (show -(2 ^ 62) ≤ w ∧ w < 2 ^ 62 by omega)])
  refine ⟨size_le (by decide), ?_⟩
  refine wp_for0 (fun j ρ M' => (∃ a, ρ = [some (.int w), some (.int h), some (.ref M.length), a, none]) ∧ M'[M.length]? = some (.lst (((List.range j).flatMap (frameCol w h)).map ppD)) ∧ ((List.range j).flatMap (frameCol w h)).length ≤ j * 120 ∧ Go [] M M') ?_ ?_ ?_
  · exact ⟨⟨_, rfl⟩, get_new, by simp, Go.app⟩
  · rintro j x ρ M3 hj ⟨⟨a, rfl⟩, e3, l3, g3⟩
    obtain ⟨rfl, jl⟩ := upto_at hj
    refine ⟨rfl, _, rfl, ?_⟩
    try (simp (config := { maxSteps := 1000000 }) only [wS_seq, wS_nx, wS_expr, wS_ret, wS_retN, wS_asg, wS_par2, wS_par3, wS_sub, wS_if, wS_for, wS_brk, wS_cont, wS_pass, after_nx, after_rt, after_bk, after_ct, wE_bind, wE_pure, wE_mem, wE_var, wE_call, wE_bin, wE_un, wE_nil, wE_cons, wE_tup, wE_lst, wE_cb, wE_lenSet, wE_meth, wE_tOfE, wE_tTru, wE_tAnd, wE_tOr, wE_tNot, wE_tYes, wE_if, wE_and, wE_or, wE_not, wE_oNo, wE_oSome, wE_sl, wE_iOf, wE_iSeq, gN_f, gT_f, gsNil_f, gsCons_f, wM_some, wM_newL, wM_if, List.getElem?_cons_zero, List.getElem?_cons_succ, List.set_cons_zero, List.set_cons_succ, List.map_cons, List.map_nil, List.cons_append, List.nil_append, Nat.reduceSub, List.replicate_succ, List.replicate_zero, List.length_cons, List.length_nil, Nat.reduceAdd, Option.some.injEq, exists_eq_left', exists_eq_left, D.bl.injEq, D.int.injEq, List.cons.injEq, and_true, true_and, exists_and_left, reduceCtorEq, false_and, and_false, exists_false, exists_const, if_true, if_false, Bool.false_eq_true, wipeE, ite_true, ite_false, exists_and_right, DL.eq_int, DL.ne_int, DL.add_int, DL.sub_int', DL.cmp_int, wM_mul, wM_fdiv, wM_mod, wM_pow, wM_shl, wM_shr, tyD_str, truD_bl, ex1, ex2, exists_eq', exists_eq, Option.bind_some, ty_lst e3])
    refine lc_pure (fun d => match d with | .int y => decide (y = 0) || decide ((j : Int) = w - 1) | _ => false) (fun d => .tup [.int (j : Nat), d]) ?_
    try (simp (config := { maxSteps := 1000000 }) only [wS_seq, wS_nx, wS_expr, wS_ret, wS_retN, wS_asg, wS_par2, wS_par3, wS_sub, wS_if, wS_for, wS_brk, wS_cont, wS_pass, after_nx, after_rt, after_bk, after_ct, wE_bind, wE_pure, wE_mem, wE_var, wE_call, wE_bin, wE_un, wE_nil, wE_cons, wE_tup, wE_lst, wE_cb, wE_lenSet, wE_meth, wE_tOfE, wE_tTru, wE_tAnd, wE_tOr, wE_tNot, wE_tYes, wE_if, wE_and, wE_or, wE_not, wE_oNo, wE_oSome, wE_sl, wE_iOf, wE_iSeq, gN_f, gT_f, gsNil_f, gsCons_f, wM_some, wM_newL, wM_if, List.getElem?_cons_zero, List.getElem?_cons_succ, List.set_cons_zero, List.set_cons_succ, List.map_cons, List.map_nil, List.cons_append, List.nil_append, Nat.reduceSub, List.replicate_succ, List.replicate_zero, List.length_cons, List.length_nil, Nat.reduceAdd, Option.some.injEq, exists_eq_left', exists_eq_left, D.bl.injEq, D.int.injEq, List.cons.injEq, and_true, true_and, exists_and_left, reduceCtorEq, false_and, and_false, exists_false, exists_const, if_true, if_false, Bool.false_eq_true, wipeE, ite_true, ite_false, exists_and_right, DL.eq_int, DL.ne_int, DL.add_int, DL.sub_int', DL.cmp_int, wM_mul, wM_fdiv, wM_mod, wM_pow, wM_shl, wM_shr, tyD_str, truD_bl, ex1, ex2, exists_eq', exists_eq, Option.bind_some, rng1_ok (show -(2 ^ 62) ≤ h ∧ h < 2 ^ 62 by omega)])
    refine ⟨fun _ => trivial, by rw [upto_nat, List.length_map, List.length_range]; omega, ?_, ?_⟩
    · intro x hx acc
      obtain ⟨y, hy, rfl⟩ := mem_upto hx
      have z2 : 2 ≤ sizeLine := size_le (by decide)
      try (simp (config := { maxSteps := 1000000 }) only [wS_seq, wS_nx, wS_expr, wS_ret, wS_retN, wS_asg, wS_par2, wS_par3, wS_sub, wS_if, wS_for, wS_brk, wS_cont, wS_pass, after_nx, after_rt, after_bk, after_ct, wE_bind, wE_pure, wE_mem, wE_var, wE_call, wE_bin, wE_un, wE_nil, wE_cons, wE_tup, wE_lst, wE_cb, wE_lenSet, wE_meth, wE_tOfE, wE_tTru, wE_tAnd, wE_tOr, wE_tNot, wE_tYes, wE_if, wE_and, wE_or, wE_not, wE_oNo, wE_oSome, wE_sl, wE_iOf, wE_iSeq, gN_f, gT_f, gsNil_f, gsCons_f, wM_some, wM_newL, wM_if, List.getElem?_cons_zero, List.getElem?_cons_succ, List.set_cons_zero, List.set_cons_succ, List.map_cons, List.map_nil, List.cons_append, List.nil_append, Nat.reduceSub, List.replicate_succ, List.replicate_zero, List.length_cons, List.length_nil, Nat.reduceAdd, Option.some.injEq, exists_eq_left', exists_eq_left, D.bl.injEq, D.int.injEq, List.cons.injEq, and_true, true_and, exists_and_left, reduceCtorEq, false_and, and_false, exists_false, exists_const, if_true, if_false, Bool.false_eq_true, wipeE, ite_true, ite_false, exists_and_right, DL.eq_int, DL.ne_int, DL.add_int, DL.sub_int', DL.cmp_int, wM_mul, wM_fdiv, wM_mod, wM_pow, wM_shl, wM_shr, tyD_str, truD_bl, ex1, ex2, exists_eq', exists_eq, Option.bind_some])
      refine ⟨?_, fun _ => z2⟩
      by_cases q : ((y : Nat) : Int) = 0
      · have q' : y = 0 := by omega
        simp [q']
      · have q' : ¬ y = 0 := by omega
        simp [q']
    · rw [show ((upto 0 h.toNat).filter fun d => match d with | .int y => decide (y = 0) || decide ((j : Int) = w - 1) | _ => false).map (fun d => D.tup [.int (j : Nat), d]) = (frameCol w h j).map ppD by
        rw [upto_nat, List.filter_map]
        unfold frameCol
        simp only [List.map_map]
        rfl]
      have hl : (frameCol w h j).length ≤ 120 := by
        unfold frameCol
        rw [List.length_map]
        have := List.length_filter_le (fun y => onFrame w j y) (List.range h.toNat)
        rw [List.length_range] at this
        omega
      have ee : (List.range (j + 1)).flatMap (frameCol w h) = (List.range j).flatMap (frameCol w h) ++ frameCol w h j := by
        rw [List.range_succ, List.flatMap_append, List.flatMap_cons, List.flatMap_nil, List.append_nil]
      rw [extend_ref (get_app e3) get_new (size_le (by rw [List.length_map, List.length_map]; omega)), wM_some]
      refine ⟨by rw [get_set (get_app e3), ee, List.map_append], by rw [ee, List.length_append]; omega, g3.appN.setN (Nat.le_refl _)⟩
  · rintro ρ M3 ⟨⟨a, rfl⟩, e3, l3, g3⟩
    rw [upto_nat, List.length_map, List.length_range] at e3
    refine ⟨rfl, ?_⟩
    try (simp (config := { maxSteps := 1000000 }) only [wS_seq, wS_nx, wS_expr, wS_ret, wS_retN, wS_asg, wS_par2, wS_par3, wS_sub, wS_if, wS_for, wS_brk, wS_cont, wS_pass, after_nx, after_rt, after_bk, after_ct, wE_bind, wE_pure, wE_mem, wE_var, wE_call, wE_bin, wE_un, wE_nil, wE_cons, wE_tup, wE_lst, wE_cb, wE_lenSet, wE_meth, wE_tOfE, wE_tTru, wE_tAnd, wE_tOr, wE_tNot, wE_tYes, wE_if, wE_and, wE_or, wE_not, wE_oNo, wE_oSome, wE_sl, wE_iOf, wE_iSeq, gN_f, gT_f, gsNil_f, gsCons_f, wM_some, wM_newL, wM_if, List.getElem?_cons_zero, List.getElem?_cons_succ, List.set_cons_zero, List.set_cons_succ, List.map_cons, List.map_nil, List.cons_append, List.nil_append, Nat.reduceSub, List.replicate_succ, List.replicate_zero, List.length_cons, List.length_nil, Nat.reduceAdd, Option.some.injEq, exists_eq_left', exists_eq_left, D.bl.injEq, D.int.injEq, List.cons.injEq, and_true, true_and, exists_and_left, reduceCtorEq, false_and, and_false, exists_false, exists_const, if_true, if_false, Bool.false_eq_true, wipeE, ite_true, ite_false, exists_and_right, DL.eq_int, DL.ne_int, DL.add_int, DL.sub_int', DL.cmp_int, wM_mul, wM_fdiv, wM_mod, wM_pow, wM_shl, wM_shr, tyD_str, truD_bl, ex1, ex2, exists_eq', exists_eq, Option.bind_some])
    exact ⟨_, rfl, Nat.le_refl _, e3, g3⟩
def seD (k : Kd) : D := .tup [.str k.s, .str k.e]
theorem seD_inj {k j : Kd} : seD k = seD j ↔ (k.s, k.e) = (j.s, j.e) := by
  unfold seD
  rw [D.tup.injEq, List.cons.injEq, List.cons.injEq, D.str.injEq, D.str.injEq, Prod.mk.injEq]
  simp
theorem sd3_inj {t u : Int × Int} : ppD t = ppD u ↔ t = u := ⟨ppD_inj, fun h => by rw [h]⟩
theorem map_ppD {l m : List (Int × Int)} : l.map ppD = m.map ppD ↔ l = m := by
  constructor
  · intro h
    induction l generalizing m with
    | nil => cases m with
      | nil => rfl
      | cons => cases h
    | cons x l ih => cases m with
      | nil => cases h
      | cons y m =>
        rw [List.map_cons, List.map_cons, List.cons.injEq] at h
        rw [ppD_inj h.1, ih h.2]
  · intro h; rw [h]
theorem is_framed_spec {n : Nat} {b : Bed} {M : Mem} (hb : WB n b) (hn : n ≤ 50) : wF F_is_framed [b.d] M fun d M' => d = .bl (framedB b) ∧ Go [] M M' := by
  refine wF_fn rfl ?_
  unfold m_is_framed Bed.d Bed.ho Bed.fl
  have hw := hb.w
  have hh := hb.h
  have sl := hb.sl
  have kl := hb.ks
  have tl := hb.st
  try (simp (config := { maxSteps := 1000000 }) only [wS_seq, wS_nx, wS_expr, wS_ret, wS_retN, wS_asg, wS_par2, wS_par3, wS_sub, wS_if, wS_for, wS_brk, wS_cont, wS_pass, after_nx, after_rt, after_bk, after_ct, wE_bind, wE_pure, wE_mem, wE_var, wE_call, wE_bin, wE_un, wE_nil, wE_cons, wE_tup, wE_lst, wE_cb, wE_lenSet, wE_meth, wE_tOfE, wE_tTru, wE_tAnd, wE_tOr, wE_tNot, wE_tYes, wE_if, wE_and, wE_or, wE_not, wE_oNo, wE_oSome, wE_sl, wE_iOf, wE_iSeq, gN_f, gT_f, gsNil_f, gsCons_f, wM_some, wM_newL, wM_if, List.getElem?_cons_zero, List.getElem?_cons_succ, List.set_cons_zero, List.set_cons_succ, List.map_cons, List.map_nil, List.cons_append, List.nil_append, Nat.reduceSub, List.replicate_succ, List.replicate_zero, List.length_cons, List.length_nil, Nat.reduceAdd, Option.some.injEq, exists_eq_left', exists_eq_left, D.bl.injEq, D.int.injEq, List.cons.injEq, and_true, true_and, exists_and_left, reduceCtorEq, false_and, and_false, exists_false, exists_const, if_true, if_false, Bool.false_eq_true, wipeE, ite_true, ite_false, exists_and_right, DL.eq_int, DL.ne_int, DL.add_int, DL.sub_int', DL.cmp_int, wM_mul, wM_fdiv, wM_mod, wM_pow, wM_shl, wM_shr, tyD_str, truD_bl, ex1, ex2, exists_eq', exists_eq, Option.bind_some])
  by_cases q : b.en ≠ 2
  · have hq : decide (b.en = 2) = false := decide_eq_false q
    try (simp (config := { maxSteps := 1000000 }) only [wS_seq, wS_nx, wS_expr, wS_ret, wS_retN, wS_asg, wS_par2, wS_par3, wS_sub, wS_if, wS_for, wS_brk, wS_cont, wS_pass, after_nx, after_rt, after_bk, after_ct, wE_bind, wE_pure, wE_mem, wE_var, wE_call, wE_bin, wE_un, wE_nil, wE_cons, wE_tup, wE_lst, wE_cb, wE_lenSet, wE_meth, wE_tOfE, wE_tTru, wE_tAnd, wE_tOr, wE_tNot, wE_tYes, wE_if, wE_and, wE_or, wE_not, wE_oNo, wE_oSome, wE_sl, wE_iOf, wE_iSeq, gN_f, gT_f, gsNil_f, gsCons_f, wM_some, wM_newL, wM_if, List.getElem?_cons_zero, List.getElem?_cons_succ, List.set_cons_zero, List.set_cons_succ, List.map_cons, List.map_nil, List.cons_append, List.nil_append, Nat.reduceSub, List.replicate_succ, List.replicate_zero, List.length_cons, List.length_nil, Nat.reduceAdd, Option.some.injEq, exists_eq_left', exists_eq_left, D.bl.injEq, D.int.injEq, List.cons.injEq, and_true, true_and, exists_and_left, reduceCtorEq, false_and, and_false, exists_false, exists_const, if_true, if_false, Bool.false_eq_true, wipeE, ite_true, ite_false, exists_and_right, DL.eq_int, DL.ne_int, DL.add_int, DL.sub_int', DL.cmp_int, wM_mul, wM_fdiv, wM_mod, wM_pow, wM_shl, wM_shr, tyD_str, truD_bl, ex1, ex2, exists_eq', exists_eq, Option.bind_some, hq, Bool.not_false])
    refine ⟨?_, Go.refl⟩
    unfold framedB
    rw [hq]
    rfl
  have hq : decide (b.en = 2) = true := by simpa using q
  try (simp (config := { maxSteps := 1000000 }) only [wS_seq, wS_nx, wS_expr, wS_ret, wS_retN, wS_asg, wS_par2, wS_par3, wS_sub, wS_if, wS_for, wS_brk, wS_cont, wS_pass, after_nx, after_rt, after_bk, after_ct, wE_bind, wE_pure, wE_mem, wE_var, wE_call, wE_bin, wE_un, wE_nil, wE_cons, wE_tup, wE_lst, wE_cb, wE_lenSet, wE_meth, wE_tOfE, wE_tTru, wE_tAnd, wE_tOr, wE_tNot, wE_tYes, wE_if, wE_and, wE_or, wE_not, wE_oNo, wE_oSome, wE_sl, wE_iOf, wE_iSeq, gN_f, gT_f, gsNil_f, gsCons_f, wM_some, wM_newL, wM_if, List.getElem?_cons_zero, List.getElem?_cons_succ, List.set_cons_zero, List.set_cons_succ, List.map_cons, List.map_nil, List.cons_append, List.nil_append, Nat.reduceSub, List.replicate_succ, List.replicate_zero, List.length_cons, List.length_nil, Nat.reduceAdd, Option.some.injEq, exists_eq_left', exists_eq_left, D.bl.injEq, D.int.injEq, List.cons.injEq, and_true, true_and, exists_and_left, reduceCtorEq, false_and, and_false, exists_false, exists_const, if_true, if_false, Bool.false_eq_true, wipeE, ite_true, ite_false, exists_and_right, DL.eq_int, DL.ne_int, DL.add_int, DL.sub_int', DL.cmp_int, wM_mul, wM_fdiv, wM_mod, wM_pow, wM_shl, wM_shr, tyD_str, truD_bl, ex1, ex2, exists_eq', exists_eq, Option.bind_some, hq, Bool.not_true])
  refine lc_all (fun d => match d with | .tup [_, .int z] => .bl (!decide (z = 1)) | _ => .non) ?_
  try (simp (config := { maxSteps := 1000000 }) only [wS_seq, wS_nx, wS_expr, wS_ret, wS_retN, wS_asg, wS_par2, wS_par3, wS_sub, wS_if, wS_for, wS_brk, wS_cont, wS_pass, after_nx, after_rt, after_bk, after_ct, wE_bind, wE_pure, wE_mem, wE_var, wE_call, wE_bin, wE_un, wE_nil, wE_cons, wE_tup, wE_lst, wE_cb, wE_lenSet, wE_meth, wE_tOfE, wE_tTru, wE_tAnd, wE_tOr, wE_tNot, wE_tYes, wE_if, wE_and, wE_or, wE_not, wE_oNo, wE_oSome, wE_sl, wE_iOf, wE_iSeq, gN_f, gT_f, gsNil_f, gsCons_f, wM_some, wM_newL, wM_if, List.getElem?_cons_zero, List.getElem?_cons_succ, List.set_cons_zero, List.set_cons_succ, List.map_cons, List.map_nil, List.cons_append, List.nil_append, Nat.reduceSub, List.replicate_succ, List.replicate_zero, List.length_cons, List.length_nil, Nat.reduceAdd, Option.some.injEq, exists_eq_left', exists_eq_left, D.bl.injEq, D.int.injEq, List.cons.injEq, and_true, true_and, exists_and_left, reduceCtorEq, false_and, and_false, exists_false, exists_const, if_true, if_false, Bool.false_eq_true, wipeE, ite_true, ite_false, exists_and_right, DL.eq_int, DL.ne_int, DL.add_int, DL.sub_int', DL.cmp_int, wM_mul, wM_fdiv, wM_mod, wM_pow, wM_shl, wM_shr, tyD_str, truD_bl, ex1, ex2, exists_eq', exists_eq, Option.bind_some, itSeq_tup])
  refine ⟨fun _ => trivial, by rw [List.length_map]; omega, ?_, ?_⟩
  · intro x hx
    obtain ⟨p, _, rfl⟩ := List.mem_map.mp hx
    try (simp (config := { maxSteps := 1000000 }) only [wS_seq, wS_nx, wS_expr, wS_ret, wS_retN, wS_asg, wS_par2, wS_par3, wS_sub, wS_if, wS_for, wS_brk, wS_cont, wS_pass, after_nx, after_rt, after_bk, after_ct, wE_bind, wE_pure, wE_mem, wE_var, wE_call, wE_bin, wE_un, wE_nil, wE_cons, wE_tup, wE_lst, wE_cb, wE_lenSet, wE_meth, wE_tOfE, wE_tTru, wE_tAnd, wE_tOr, wE_tNot, wE_tYes, wE_if, wE_and, wE_or, wE_not, wE_oNo, wE_oSome, wE_sl, wE_iOf, wE_iSeq, gN_f, gT_f, gsNil_f, gsCons_f, wM_some, wM_newL, wM_if, List.getElem?_cons_zero, List.getElem?_cons_succ, List.set_cons_zero, List.set_cons_succ, List.map_cons, List.map_nil, List.cons_append, List.nil_append, Nat.reduceSub, List.replicate_succ, List.replicate_zero, List.length_cons, List.length_nil, Nat.reduceAdd, Option.some.injEq, exists_eq_left', exists_eq_left, D.bl.injEq, D.int.injEq, List.cons.injEq, and_true, true_and, exists_and_left, reduceCtorEq, false_and, and_false, exists_false, exists_const, if_true, if_false, Bool.false_eq_true, wipeE, ite_true, ite_false, exists_and_right, DL.eq_int, DL.ne_int, DL.add_int, DL.sub_int', DL.cmp_int, wM_mul, wM_fdiv, wM_mod, wM_pow, wM_shl, wM_shr, tyD_str, truD_bl, ex1, ex2, exists_eq', exists_eq, Option.bind_some, stD])
    intro acc
    trivial
  rw [show (b.st.map stD).map (fun d => match d with | .tup [_, .int z] => D.bl (!decide (z = 1)) | _ => .non) = (b.st.map fun p => !decide (p.2 = 1)).map D.bl by
    rw [List.map_map, List.map_map]; rfl, any_ref get_new, wM_some]
  try (simp (config := { maxSteps := 1000000 }) only [wS_seq, wS_nx, wS_expr, wS_ret, wS_retN, wS_asg, wS_par2, wS_par3, wS_sub, wS_if, wS_for, wS_brk, wS_cont, wS_pass, after_nx, after_rt, after_bk, after_ct, wE_bind, wE_pure, wE_mem, wE_var, wE_call, wE_bin, wE_un, wE_nil, wE_cons, wE_tup, wE_lst, wE_cb, wE_lenSet, wE_meth, wE_tOfE, wE_tTru, wE_tAnd, wE_tOr, wE_tNot, wE_tYes, wE_if, wE_and, wE_or, wE_not, wE_oNo, wE_oSome, wE_sl, wE_iOf, wE_iSeq, gN_f, gT_f, gsNil_f, gsCons_f, wM_some, wM_newL, wM_if, List.getElem?_cons_zero, List.getElem?_cons_succ, List.set_cons_zero, List.set_cons_succ, List.map_cons, List.map_nil, List.cons_append, List.nil_append, Nat.reduceSub, List.replicate_succ, List.replicate_zero, List.length_cons, List.length_nil, Nat.reduceAdd, Option.some.injEq, exists_eq_left', exists_eq_left, D.bl.injEq, D.int.injEq, List.cons.injEq, and_true, true_and, exists_and_left, reduceCtorEq, false_and, and_false, exists_false, exists_const, if_true, if_false, Bool.false_eq_true, wipeE, ite_true, ite_false, exists_and_right, DL.eq_int, DL.ne_int, DL.add_int, DL.sub_int', DL.cmp_int, wM_mul, wM_fdiv, wM_mod, wM_pow, wM_shl, wM_shr, tyD_str, truD_bl, ex1, ex2, exists_eq', exists_eq, Option.bind_some])
  by_cases h1 : (b.st.map fun p => !decide (p.2 = 1)).any id = true
  · try (simp (config := { maxSteps := 1000000 }) only [wS_seq, wS_nx, wS_expr, wS_ret, wS_retN, wS_asg, wS_par2, wS_par3, wS_sub, wS_if, wS_for, wS_brk, wS_cont, wS_pass, after_nx, after_rt, after_bk, after_ct, wE_bind, wE_pure, wE_mem, wE_var, wE_call, wE_bin, wE_un, wE_nil, wE_cons, wE_tup, wE_lst, wE_cb, wE_lenSet, wE_meth, wE_tOfE, wE_tTru, wE_tAnd, wE_tOr, wE_tNot, wE_tYes, wE_if, wE_and, wE_or, wE_not, wE_oNo, wE_oSome, wE_sl, wE_iOf, wE_iSeq, gN_f, gT_f, gsNil_f, gsCons_f, wM_some, wM_newL, wM_if, List.getElem?_cons_zero, List.getElem?_cons_succ, List.set_cons_zero, List.set_cons_succ, List.map_cons, List.map_nil, List.cons_append, List.nil_append, Nat.reduceSub, List.replicate_succ, List.replicate_zero, List.length_cons, List.length_nil, Nat.reduceAdd, Option.some.injEq, exists_eq_left', exists_eq_left, D.bl.injEq, D.int.injEq, List.cons.injEq, and_true, true_and, exists_and_left, reduceCtorEq, false_and, and_false, exists_false, exists_const, if_true, if_false, Bool.false_eq_true, wipeE, ite_true, ite_false, exists_and_right, DL.eq_int, DL.ne_int, DL.add_int, DL.sub_int', DL.cmp_int, wM_mul, wM_fdiv, wM_mod, wM_pow, wM_shl, wM_shr, tyD_str, truD_bl, ex1, ex2, exists_eq', exists_eq, Option.bind_some, h1])
    refine ⟨?_, Go.app⟩
    unfold framedB
    rw [show (b.st.all fun p => decide (p.2 = 1)) = false by
      rw [List.any_map] at h1
      obtain ⟨p, hp, h2⟩ := List.any_eq_true.mp h1
      refine List.all_eq_false.mpr ⟨p, hp, ?_⟩
      simpa using h2]
    simp
  have h1t : (b.st.all fun p => decide (p.2 = 1)) = true := by
    rw [List.any_map] at h1
    rw [List.all_eq_true]
    intro p hp
    have := mt List.any_eq_true.mpr h1
    have h3 : ¬ (id ∘ fun (p : Str × Int) => !decide (p.2 = 1)) p = true := fun z => this ⟨p, hp, z⟩
    simpa using h3
  try (simp (config := { maxSteps := 1000000 }) only [wS_seq, wS_nx, wS_expr, wS_ret, wS_retN, wS_asg, wS_par2, wS_par3, wS_sub, wS_if, wS_for, wS_brk, wS_cont, wS_pass, after_nx, after_rt, after_bk, after_ct, wE_bind, wE_pure, wE_mem, wE_var, wE_call, wE_bin, wE_un, wE_nil, wE_cons, wE_tup, wE_lst, wE_cb, wE_lenSet, wE_meth, wE_tOfE, wE_tTru, wE_tAnd, wE_tOr, wE_tNot, wE_tYes, wE_if, wE_and, wE_or, wE_not, wE_oNo, wE_oSome, wE_sl, wE_iOf, wE_iSeq, gN_f, gT_f, gsNil_f, gsCons_f, wM_some, wM_newL, wM_if, List.getElem?_cons_zero, List.getElem?_cons_succ, List.set_cons_zero, List.set_cons_succ, List.map_cons, List.map_nil, List.cons_append, List.nil_append, Nat.reduceSub, List.replicate_succ, List.replicate_zero, List.length_cons, List.length_nil, Nat.reduceAdd, Option.some.injEq, exists_eq_left', exists_eq_left, D.bl.injEq, D.int.injEq, List.cons.injEq, and_true, true_and, exists_and_left, reduceCtorEq, false_and, and_false, exists_false, exists_const, if_true, if_false, Bool.false_eq_true, wipeE, ite_true, ite_false, exists_and_right, DL.eq_int, DL.ne_int, DL.add_int, DL.sub_int', DL.cmp_int, wM_mul, wM_fdiv, wM_mod, wM_pow, wM_shl, wM_shr, tyD_str, truD_bl, ex1, ex2, exists_eq', exists_eq, Option.bind_some, h1])
  have go1 : Go [] M (M ++ [MO.lst ((b.st.map fun p => !decide (p.2 = 1)).map D.bl)]) := Go.app
  generalize M ++ [MO.lst ((b.st.map fun p => !decide (p.2 = 1)).map D.bl)] = N1 at go1
  refine lc_all (fun d => match d with | .tup (_ :: r) => .bl (decide (D.str "" ∈ r)) | _ => .non) ?_
  try (simp (config := { maxSteps := 1000000 }) only [wS_seq, wS_nx, wS_expr, wS_ret, wS_retN, wS_asg, wS_par2, wS_par3, wS_sub, wS_if, wS_for, wS_brk, wS_cont, wS_pass, after_nx, after_rt, after_bk, after_ct, wE_bind, wE_pure, wE_mem, wE_var, wE_call, wE_bin, wE_un, wE_nil, wE_cons, wE_tup, wE_lst, wE_cb, wE_lenSet, wE_meth, wE_tOfE, wE_tTru, wE_tAnd, wE_tOr, wE_tNot, wE_tYes, wE_if, wE_and, wE_or, wE_not, wE_oNo, wE_oSome, wE_sl, wE_iOf, wE_iSeq, gN_f, gT_f, gsNil_f, gsCons_f, wM_some, wM_newL, wM_if, List.getElem?_cons_zero, List.getElem?_cons_succ, List.set_cons_zero, List.set_cons_succ, List.map_cons, List.map_nil, List.cons_append, List.nil_append, Nat.reduceSub, List.replicate_succ, List.replicate_zero, List.length_cons, List.length_nil, Nat.reduceAdd, Option.some.injEq, exists_eq_left', exists_eq_left, D.bl.injEq, D.int.injEq, List.cons.injEq, and_true, true_and, exists_and_left, reduceCtorEq, false_and, and_false, exists_false, exists_const, if_true, if_false, Bool.false_eq_true, wipeE, ite_true, ite_false, exists_and_right, DL.eq_int, DL.ne_int, DL.add_int, DL.sub_int', DL.cmp_int, wM_mul, wM_fdiv, wM_mod, wM_pow, wM_shl, wM_shr, tyD_str, truD_bl, ex1, ex2, exists_eq', exists_eq, Option.bind_some, itSeq_tup])
  refine ⟨fun _ => trivial, by rw [List.length_map]; omega, ?_, ?_⟩
  · intro x hx
    obtain ⟨k, hk, rfl⟩ := List.mem_map.mp hx
    have ko := hb.ko k hk
    have f1 : ∀ M, opSl k.d (some 1) none M = some (.tup [.str k.n, .str k.e, .str k.s, .str k.w], M) := fun M => rfl
    have f2 : ∀ M, opIn (.str "") (.tup [.str k.n, .str k.e, .str k.s, .str k.w]) M = some (.bl (hasE k), M) := fun M => in_of (inB_tup (by decide +kernel) (strs_pln (ss := [k.n, k.e, k.s, k.w]) (by
      intro s hs
      simp only [List.mem_cons, List.not_mem_nil, or_false] at hs
      rcases hs with rfl | rfl | rfl | rfl
      · exact ko.n
      · exact ko.e
      · exact ko.s
      · exact ko.w)))
    intro acc
    try (simp (config := { maxSteps := 1000000 }) only [wS_seq, wS_nx, wS_expr, wS_ret, wS_retN, wS_asg, wS_par2, wS_par3, wS_sub, wS_if, wS_for, wS_brk, wS_cont, wS_pass, after_nx, after_rt, after_bk, after_ct, wE_bind, wE_pure, wE_mem, wE_var, wE_call, wE_bin, wE_un, wE_nil, wE_cons, wE_tup, wE_lst, wE_cb, wE_lenSet, wE_meth, wE_tOfE, wE_tTru, wE_tAnd, wE_tOr, wE_tNot, wE_tYes, wE_if, wE_and, wE_or, wE_not, wE_oNo, wE_oSome, wE_sl, wE_iOf, wE_iSeq, gN_f, gT_f, gsNil_f, gsCons_f, wM_some, wM_newL, wM_if, List.getElem?_cons_zero, List.getElem?_cons_succ, List.set_cons_zero, List.set_cons_succ, List.map_cons, List.map_nil, List.cons_append, List.nil_append, Nat.reduceSub, List.replicate_succ, List.replicate_zero, List.length_cons, List.length_nil, Nat.reduceAdd, Option.some.injEq, exists_eq_left', exists_eq_left, D.bl.injEq, D.int.injEq, List.cons.injEq, and_true, true_and, exists_and_left, reduceCtorEq, false_and, and_false, exists_false, exists_const, if_true, if_false, Bool.false_eq_true, wipeE, ite_true, ite_false, exists_and_right, DL.eq_int, DL.ne_int, DL.add_int, DL.sub_int', DL.cmp_int, wM_mul, wM_fdiv, wM_mod, wM_pow, wM_shl, wM_shr, tyD_str, truD_bl, ex1, ex2, exists_eq', exists_eq, Option.bind_some, f1, f2])
    rfl
  rw [show (b.ks.map Kd.d).map (fun d => match d with | .tup (_ :: r) => D.bl (decide (D.str "" ∈ r)) | _ => .non) = (b.ks.map hasE).map D.bl by
    rw [List.map_map, List.map_map]; rfl, any_ref get_new, wM_some]
  try (simp (config := { maxSteps := 1000000 }) only [wS_seq, wS_nx, wS_expr, wS_ret, wS_retN, wS_asg, wS_par2, wS_par3, wS_sub, wS_if, wS_for, wS_brk, wS_cont, wS_pass, after_nx, after_rt, after_bk, after_ct, wE_bind, wE_pure, wE_mem, wE_var, wE_call, wE_bin, wE_un, wE_nil, wE_cons, wE_tup, wE_lst, wE_cb, wE_lenSet, wE_meth, wE_tOfE, wE_tTru, wE_tAnd, wE_tOr, wE_tNot, wE_tYes, wE_if, wE_and, wE_or, wE_not, wE_oNo, wE_oSome, wE_sl, wE_iOf, wE_iSeq, gN_f, gT_f, gsNil_f, gsCons_f, wM_some, wM_newL, wM_if, List.getElem?_cons_zero, List.getElem?_cons_succ, List.set_cons_zero, List.set_cons_succ, List.map_cons, List.map_nil, List.cons_append, List.nil_append, Nat.reduceSub, List.replicate_succ, List.replicate_zero, List.length_cons, List.length_nil, Nat.reduceAdd, Option.some.injEq, exists_eq_left', exists_eq_left, D.bl.injEq, D.int.injEq, List.cons.injEq, and_true, true_and, exists_and_left, reduceCtorEq, false_and, and_false, exists_false, exists_const, if_true, if_false, Bool.false_eq_true, wipeE, ite_true, ite_false, exists_and_right, DL.eq_int, DL.ne_int, DL.add_int, DL.sub_int', DL.cmp_int, wM_mul, wM_fdiv, wM_mod, wM_pow, wM_shl, wM_shr, tyD_str, truD_bl, ex1, ex2, exists_eq', exists_eq, Option.bind_some])
  have hall : (b.ks.all fun k => !hasE k) = !(b.ks.map hasE).any id := by
    rw [List.any_map, List.all_eq_not_any_not]
    simp
  by_cases h2 : (b.ks.map hasE).any id = true
  · try (simp (config := { maxSteps := 1000000 }) only [wS_seq, wS_nx, wS_expr, wS_ret, wS_retN, wS_asg, wS_par2, wS_par3, wS_sub, wS_if, wS_for, wS_brk, wS_cont, wS_pass, after_nx, after_rt, after_bk, after_ct, wE_bind, wE_pure, wE_mem, wE_var, wE_call, wE_bin, wE_un, wE_nil, wE_cons, wE_tup, wE_lst, wE_cb, wE_lenSet, wE_meth, wE_tOfE, wE_tTru, wE_tAnd, wE_tOr, wE_tNot, wE_tYes, wE_if, wE_and, wE_or, wE_not, wE_oNo, wE_oSome, wE_sl, wE_iOf, wE_iSeq, gN_f, gT_f, gsNil_f, gsCons_f, wM_some, wM_newL, wM_if, List.getElem?_cons_zero, List.getElem?_cons_succ, List.set_cons_zero, List.set_cons_succ, List.map_cons, List.map_nil, List.cons_append, List.nil_append, Nat.reduceSub, List.replicate_succ, List.replicate_zero, List.length_cons, List.length_nil, Nat.reduceAdd, Option.some.injEq, exists_eq_left', exists_eq_left, D.bl.injEq, D.int.injEq, List.cons.injEq, and_true, true_and, exists_and_left, reduceCtorEq, false_and, and_false, exists_false, exists_const, if_true, if_false, Bool.false_eq_true, wipeE, ite_true, ite_false, exists_and_right, DL.eq_int, DL.ne_int, DL.add_int, DL.sub_int', DL.cmp_int, wM_mul, wM_fdiv, wM_mod, wM_pow, wM_shl, wM_shr, tyD_str, truD_bl, ex1, ex2, exists_eq', exists_eq, Option.bind_some, h2])
    refine ⟨?_, go1.appN⟩
    unfold framedB
    rw [hall, h2]
    simp
  have h2' : (b.ks.map hasE).any id = false := by simpa using h2
  try (simp (config := { maxSteps := 1000000 }) only [wS_seq, wS_nx, wS_expr, wS_ret, wS_retN, wS_asg, wS_par2, wS_par3, wS_sub, wS_if, wS_for, wS_brk, wS_cont, wS_pass, after_nx, after_rt, after_bk, after_ct, wE_bind, wE_pure, wE_mem, wE_var, wE_call, wE_bin, wE_un, wE_nil, wE_cons, wE_tup, wE_lst, wE_cb, wE_lenSet, wE_meth, wE_tOfE, wE_tTru, wE_tAnd, wE_tOr, wE_tNot, wE_tYes, wE_if, wE_and, wE_or, wE_not, wE_oNo, wE_oSome, wE_sl, wE_iOf, wE_iSeq, gN_f, gT_f, gsNil_f, gsCons_f, wM_some, wM_newL, wM_if, List.getElem?_cons_zero, List.getElem?_cons_succ, List.set_cons_zero, List.set_cons_succ, List.map_cons, List.map_nil, List.cons_append, List.nil_append, Nat.reduceSub, List.replicate_succ, List.replicate_zero, List.length_cons, List.length_nil, Nat.reduceAdd, Option.some.injEq, exists_eq_left', exists_eq_left, D.bl.injEq, D.int.injEq, List.cons.injEq, and_true, true_and, exists_and_left, reduceCtorEq, false_and, and_false, exists_false, exists_const, if_true, if_false, Bool.false_eq_true, wipeE, ite_true, ite_false, exists_and_right, DL.eq_int, DL.ne_int, DL.add_int, DL.sub_int', DL.cmp_int, wM_mul, wM_fdiv, wM_mod, wM_pow, wM_shl, wM_shr, tyD_str, truD_bl, ex1, ex2, exists_eq', exists_eq, Option.bind_some, h2'])
  have go2 := go1.appN (N := [MO.lst ((b.ks.map hasE).map D.bl)])
  generalize N1 ++ [MO.lst ((b.ks.map hasE).map D.bl)] = N2 at go2
  refine lc_all (fun d => match d with | .tup [_, _, e, s, _] => .tup [s, e] | _ => .non) ?_
  try (simp (config := { maxSteps := 1000000 }) only [wS_seq, wS_nx, wS_expr, wS_ret, wS_retN, wS_asg, wS_par2, wS_par3, wS_sub, wS_if, wS_for, wS_brk, wS_cont, wS_pass, after_nx, after_rt, after_bk, after_ct, wE_bind, wE_pure, wE_mem, wE_var, wE_call, wE_bin, wE_un, wE_nil, wE_cons, wE_tup, wE_lst, wE_cb, wE_lenSet, wE_meth, wE_tOfE, wE_tTru, wE_tAnd, wE_tOr, wE_tNot, wE_tYes, wE_if, wE_and, wE_or, wE_not, wE_oNo, wE_oSome, wE_sl, wE_iOf, wE_iSeq, gN_f, gT_f, gsNil_f, gsCons_f, wM_some, wM_newL, wM_if, List.getElem?_cons_zero, List.getElem?_cons_succ, List.set_cons_zero, List.set_cons_succ, List.map_cons, List.map_nil, List.cons_append, List.nil_append, Nat.reduceSub, List.replicate_succ, List.replicate_zero, List.length_cons, List.length_nil, Nat.reduceAdd, Option.some.injEq, exists_eq_left', exists_eq_left, D.bl.injEq, D.int.injEq, List.cons.injEq, and_true, true_and, exists_and_left, reduceCtorEq, false_and, and_false, exists_false, exists_const, if_true, if_false, Bool.false_eq_true, wipeE, ite_true, ite_false, exists_and_right, DL.eq_int, DL.ne_int, DL.add_int, DL.sub_int', DL.cmp_int, wM_mul, wM_fdiv, wM_mod, wM_pow, wM_shl, wM_shr, tyD_str, truD_bl, ex1, ex2, exists_eq', exists_eq, Option.bind_some, itSeq_tup])
  refine ⟨fun _ => trivial, by rw [List.length_map]; omega, ?_, ?_⟩
  · intro x hx
    obtain ⟨k, hk, rfl⟩ := List.mem_map.mp hx
    try (simp (config := { maxSteps := 1000000 }) only [wS_seq, wS_nx, wS_expr, wS_ret, wS_retN, wS_asg, wS_par2, wS_par3, wS_sub, wS_if, wS_for, wS_brk, wS_cont, wS_pass, after_nx, after_rt, after_bk, after_ct, wE_bind, wE_pure, wE_mem, wE_var, wE_call, wE_bin, wE_un, wE_nil, wE_cons, wE_tup, wE_lst, wE_cb, wE_lenSet, wE_meth, wE_tOfE, wE_tTru, wE_tAnd, wE_tOr, wE_tNot, wE_tYes, wE_if, wE_and, wE_or, wE_not, wE_oNo, wE_oSome, wE_sl, wE_iOf, wE_iSeq, gN_f, gT_f, gsNil_f, gsCons_f, wM_some, wM_newL, wM_if, List.getElem?_cons_zero, List.getElem?_cons_succ, List.set_cons_zero, List.set_cons_succ, List.map_cons, List.map_nil, List.cons_append, List.nil_append, Nat.reduceSub, List.replicate_succ, List.replicate_zero, List.length_cons, List.length_nil, Nat.reduceAdd, Option.some.injEq, exists_eq_left', exists_eq_left, D.bl.injEq, D.int.injEq, List.cons.injEq, and_true, true_and, exists_and_left, reduceCtorEq, false_and, and_false, exists_false, exists_const, if_true, if_false, Bool.false_eq_true, wipeE, ite_true, ite_false, exists_and_right, DL.eq_int, DL.ne_int, DL.add_int, DL.sub_int', DL.cmp_int, wM_mul, wM_fdiv, wM_mod, wM_pow, wM_shl, wM_shr, tyD_str, truD_bl, ex1, ex2, exists_eq', exists_eq, Option.bind_some, Kd.d])
    intro acc
    exact size_le (by decide)
  rw [show (b.ks.map Kd.d).map (fun d => match d with | .tup [_, _, e, s, _] => D.tup [s, e] | _ => .non) = b.ks.map seD by
    rw [List.map_map]; rfl]
  have hmk : (b.ks.map seD).mapM strsOf = some (b.ks.map fun k => [k.s, k.e]) := by
    rw [List.mapM_map]
    exact mapM_all fun k _ => rfl
  rw [lenSet_ref get_new hmk (by rw [List.length_map]; omega), wM_some, len_ref get_new, wM_some]
  have hnd : (b.ks.map fun k => [k.s, k.e]).Nodup ↔ (b.ks.map fun k => (k.s, k.e)).Nodup := by
    rw [List.Nodup, List.Nodup, List.pairwise_map, List.pairwise_map]
    refine List.Pairwise.iff fun k j => not_congr ?_
    rw [List.cons.injEq, List.cons.injEq, Prod.mk.injEq]
    simp
  have hd : ((distK (b.ks.map fun k => [k.s, k.e])).length : Int) = ((b.ks.map seD).length : Nat) ↔ (b.ks.map fun k => (k.s, k.e)).Nodup := by
    rw [← hnd, ← distK_all, List.length_map, List.length_map]
    omega
  try (simp (config := { maxSteps := 1000000 }) only [wS_seq, wS_nx, wS_expr, wS_ret, wS_retN, wS_asg, wS_par2, wS_par3, wS_sub, wS_if, wS_for, wS_brk, wS_cont, wS_pass, after_nx, after_rt, after_bk, after_ct, wE_bind, wE_pure, wE_mem, wE_var, wE_call, wE_bin, wE_un, wE_nil, wE_cons, wE_tup, wE_lst, wE_cb, wE_lenSet, wE_meth, wE_tOfE, wE_tTru, wE_tAnd, wE_tOr, wE_tNot, wE_tYes, wE_if, wE_and, wE_or, wE_not, wE_oNo, wE_oSome, wE_sl, wE_iOf, wE_iSeq, gN_f, gT_f, gsNil_f, gsCons_f, wM_some, wM_newL, wM_if, List.getElem?_cons_zero, List.getElem?_cons_succ, List.set_cons_zero, List.set_cons_succ, List.map_cons, List.map_nil, List.cons_append, List.nil_append, Nat.reduceSub, List.replicate_succ, List.replicate_zero, List.length_cons, List.length_nil, Nat.reduceAdd, Option.some.injEq, exists_eq_left', exists_eq_left, D.bl.injEq, D.int.injEq, List.cons.injEq, and_true, true_and, exists_and_left, reduceCtorEq, false_and, and_false, exists_false, exists_const, if_true, if_false, Bool.false_eq_true, wipeE, ite_true, ite_false, exists_and_right, DL.eq_int, DL.ne_int, DL.add_int, DL.sub_int', DL.cmp_int, wM_mul, wM_fdiv, wM_mod, wM_pow, wM_shl, wM_shr, tyD_str, truD_bl, ex1, ex2, exists_eq', exists_eq, Option.bind_some])
  by_cases h3 : ¬ (b.ks.map fun k => (k.s, k.e)).Nodup
  · have h3' : decide (((distK (b.ks.map fun k => [k.s, k.e])).length : Int) = ((b.ks.map seD).length : Nat)) = false := decide_eq_false (mt hd.mp h3)
    try (simp (config := { maxSteps := 1000000 }) only [wS_seq, wS_nx, wS_expr, wS_ret, wS_retN, wS_asg, wS_par2, wS_par3, wS_sub, wS_if, wS_for, wS_brk, wS_cont, wS_pass, after_nx, after_rt, after_bk, after_ct, wE_bind, wE_pure, wE_mem, wE_var, wE_call, wE_bin, wE_un, wE_nil, wE_cons, wE_tup, wE_lst, wE_cb, wE_lenSet, wE_meth, wE_tOfE, wE_tTru, wE_tAnd, wE_tOr, wE_tNot, wE_tYes, wE_if, wE_and, wE_or, wE_not, wE_oNo, wE_oSome, wE_sl, wE_iOf, wE_iSeq, gN_f, gT_f, gsNil_f, gsCons_f, wM_some, wM_newL, wM_if, List.getElem?_cons_zero, List.getElem?_cons_succ, List.set_cons_zero, List.set_cons_succ, List.map_cons, List.map_nil, List.cons_append, List.nil_append, Nat.reduceSub, List.replicate_succ, List.replicate_zero, List.length_cons, List.length_nil, Nat.reduceAdd, Option.some.injEq, exists_eq_left', exists_eq_left, D.bl.injEq, D.int.injEq, List.cons.injEq, and_true, true_and, exists_and_left, reduceCtorEq, false_and, and_false, exists_false, exists_const, if_true, if_false, Bool.false_eq_true, wipeE, ite_true, ite_false, exists_and_right, DL.eq_int, DL.ne_int, DL.add_int, DL.sub_int', DL.cmp_int, wM_mul, wM_fdiv, wM_mod, wM_pow, wM_shl, wM_shr, tyD_str, truD_bl, ex1, ex2, exists_eq', exists_eq, Option.bind_some, h3'])
    refine ⟨?_, go2.appN⟩
    unfold framedB
    rw [decide_eq_false h3]
    simp
  have h3n : (b.ks.map fun k => (k.s, k.e)).Nodup := Decidable.not_not.mp h3
  have h3' : decide (((distK (b.ks.map fun k => [k.s, k.e])).length : Int) = ((b.ks.map seD).length : Nat)) = true := decide_eq_true (hd.mpr h3n)
  try (simp (config := { maxSteps := 1000000 }) only [wS_seq, wS_nx, wS_expr, wS_ret, wS_retN, wS_asg, wS_par2, wS_par3, wS_sub, wS_if, wS_for, wS_brk, wS_cont, wS_pass, after_nx, after_rt, after_bk, after_ct, wE_bind, wE_pure, wE_mem, wE_var, wE_call, wE_bin, wE_un, wE_nil, wE_cons, wE_tup, wE_lst, wE_cb, wE_lenSet, wE_meth, wE_tOfE, wE_tTru, wE_tAnd, wE_tOr, wE_tNot, wE_tYes, wE_if, wE_and, wE_or, wE_not, wE_oNo, wE_oSome, wE_sl, wE_iOf, wE_iSeq, gN_f, gT_f, gsNil_f, gsCons_f, wM_some, wM_newL, wM_if, List.getElem?_cons_zero, List.getElem?_cons_succ, List.set_cons_zero, List.set_cons_succ, List.map_cons, List.map_nil, List.cons_append, List.nil_append, Nat.reduceSub, List.replicate_succ, List.replicate_zero, List.length_cons, List.length_nil, Nat.reduceAdd, Option.some.injEq, exists_eq_left', exists_eq_left, D.bl.injEq, D.int.injEq, List.cons.injEq, and_true, true_and, exists_and_left, reduceCtorEq, false_and, and_false, exists_false, exists_const, if_true, if_false, Bool.false_eq_true, wipeE, ite_true, ite_false, exists_and_right, DL.eq_int, DL.ne_int, DL.add_int, DL.sub_int', DL.cmp_int, wM_mul, wM_fdiv, wM_mod, wM_pow, wM_shl, wM_shr, tyD_str, truD_bl, ex1, ex2, exists_eq', exists_eq, Option.bind_some, h3'])
  have go3 := go2.appN (N := [MO.lst (b.ks.map seD)])
  generalize N2 ++ [MO.lst (b.ks.map seD)] = N3 at go3
  refine lc_all (fun d => match d with | .tup [x, y, _] => .tup [x, y] | _ => .non) ?_
  try (simp (config := { maxSteps := 1000000 }) only [wS_seq, wS_nx, wS_expr, wS_ret, wS_retN, wS_asg, wS_par2, wS_par3, wS_sub, wS_if, wS_for, wS_brk, wS_cont, wS_pass, after_nx, after_rt, after_bk, after_ct, wE_bind, wE_pure, wE_mem, wE_var, wE_call, wE_bin, wE_un, wE_nil, wE_cons, wE_tup, wE_lst, wE_cb, wE_lenSet, wE_meth, wE_tOfE, wE_tTru, wE_tAnd, wE_tOr, wE_tNot, wE_tYes, wE_if, wE_and, wE_or, wE_not, wE_oNo, wE_oSome, wE_sl, wE_iOf, wE_iSeq, gN_f, gT_f, gsNil_f, gsCons_f, wM_some, wM_newL, wM_if, List.getElem?_cons_zero, List.getElem?_cons_succ, List.set_cons_zero, List.set_cons_succ, List.map_cons, List.map_nil, List.cons_append, List.nil_append, Nat.reduceSub, List.replicate_succ, List.replicate_zero, List.length_cons, List.length_nil, Nat.reduceAdd, Option.some.injEq, exists_eq_left', exists_eq_left, D.bl.injEq, D.int.injEq, List.cons.injEq, and_true, true_and, exists_and_left, reduceCtorEq, false_and, and_false, exists_false, exists_const, if_true, if_false, Bool.false_eq_true, wipeE, ite_true, ite_false, exists_and_right, DL.eq_int, DL.ne_int, DL.add_int, DL.sub_int', DL.cmp_int, wM_mul, wM_fdiv, wM_mod, wM_pow, wM_shl, wM_shr, tyD_str, truD_bl, ex1, ex2, exists_eq', exists_eq, Option.bind_some, itSeq_tup])
  refine ⟨fun _ => trivial, by rw [List.length_map]; omega, ?_, ?_⟩
  · intro x hx
    obtain ⟨t, ht, rfl⟩ := List.mem_map.mp hx
    try (simp (config := { maxSteps := 1000000 }) only [wS_seq, wS_nx, wS_expr, wS_ret, wS_retN, wS_asg, wS_par2, wS_par3, wS_sub, wS_if, wS_for, wS_brk, wS_cont, wS_pass, after_nx, after_rt, after_bk, after_ct, wE_bind, wE_pure, wE_mem, wE_var, wE_call, wE_bin, wE_un, wE_nil, wE_cons, wE_tup, wE_lst, wE_cb, wE_lenSet, wE_meth, wE_tOfE, wE_tTru, wE_tAnd, wE_tOr, wE_tNot, wE_tYes, wE_if, wE_and, wE_or, wE_not, wE_oNo, wE_oSome, wE_sl, wE_iOf, wE_iSeq, gN_f, gT_f, gsNil_f, gsCons_f, wM_some, wM_newL, wM_if, List.getElem?_cons_zero, List.getElem?_cons_succ, List.set_cons_zero, List.set_cons_succ, List.map_cons, List.map_nil, List.cons_append, List.nil_append, Nat.reduceSub, List.replicate_succ, List.replicate_zero, List.length_cons, List.length_nil, Nat.reduceAdd, Option.some.injEq, exists_eq_left', exists_eq_left, D.bl.injEq, D.int.injEq, List.cons.injEq, and_true, true_and, exists_and_left, reduceCtorEq, false_and, and_false, exists_false, exists_const, if_true, if_false, Bool.false_eq_true, wipeE, ite_true, ite_false, exists_and_right, DL.eq_int, DL.ne_int, DL.add_int, DL.sub_int', DL.cmp_int, wM_mul, wM_fdiv, wM_mod, wM_pow, wM_shl, wM_shr, tyD_str, truD_bl, ex1, ex2, exists_eq', exists_eq, Option.bind_some, sdD])
    intro acc
    exact size_le (by decide)
  rw [show (b.sd.map sdD).map (fun d => match d with | .tup [x, y, _] => D.tup [x, y] | _ => .non) = (b.sd.map plc).map ppD by
    rw [List.map_map, List.map_map]; rfl]
  refine (frame_of_spec (by omega) (by omega)).imp ?_
  rintro _ M5 ⟨l, rfl, hl, e5, g5⟩
  have e4 := g5.get (l := N3.length) (o := .lst ((b.sd.map plc).map ppD)) get_new (by simp)
  rw [eq_lst e4 e5 (pps_pln _) (pps_pln _), wM_some]
  refine ⟨?_, go3.trans (Go.app.trans g5)⟩
  unfold framedB
  rw [hq, h1t, hall, h2', decide_eq_true h3n, decide_eq_decide.mpr map_ppD]
  rfl
end G

namespace G
open PySem PySem.Spec PyProof.Rows L2 DL
/-- two strictly rising lists of the same items are one -/
theorem ext_sorted {α : Type} {R : α → α → Prop} (ir : ∀ a, ¬ R a a) (tr : ∀ a b c, R a b → R b c → R a c) : ∀ {l m : List α}, l.Pairwise R → m.Pairwise R → (∀ a, a ∈ l ↔ a ∈ m) → l = m
  | [], [], _, _, _ => rfl
  | [], y :: m, _, _, h => by have := (h y).mpr List.mem_cons_self; cases this
  | x :: l, [], _, _, h => by have := (h x).mp List.mem_cons_self; cases this
  | x :: l, y :: m, h1, h2, h => by
    rw [List.pairwise_cons] at h1 h2
    have e : x = y := by
      rcases List.mem_cons.mp ((h x).mp List.mem_cons_self) with e | hx
      · exact e
      · rcases List.mem_cons.mp ((h y).mpr List.mem_cons_self) with e | hy
        · exact e.symm
        · exact (ir _ (tr _ _ _ (h1.1 y hy) (h2.1 x hx))).elim
    subst e
    rw [ext_sorted ir tr h1.2 h2.2 fun a => ⟨fun ha => by
      rcases List.mem_cons.mp ((h a).mp (List.mem_cons_of_mem _ ha)) with e | hm
      · subst e; exact (ir _ (h1.1 _ ha)).elim
      · exact hm, fun ha => by
      rcases List.mem_cons.mp ((h a).mpr (List.mem_cons_of_mem _ ha)) with e | hm
      · subst e; exact (ir _ (h2.1 _ ha)).elim
      · exact hm⟩]
theorem frame_up (w h : Int) : (frameL w h).Pairwise LtP := by
  unfold frameL
  rw [List.pairwise_flatMap]
  refine ⟨fun x _ => ?_, ?_⟩
  · unfold frameCol
    rw [List.pairwise_map]
    refine (List.pairwise_lt_range.sublist List.filter_sublist).imp fun {a b} hab => ?_
    unfold LtP
    dsimp only
    omega
  · refine List.pairwise_lt_range.imp fun {a b} hab p hp q hq => ?_
    unfold frameCol at hp hq
    obtain ⟨u, _, rfl⟩ := List.mem_map.mp hp
    obtain ⟨v, _, rfl⟩ := List.mem_map.mp hq
    unfold LtP
    dsimp only
    omega
theorem frame_mem {w h : Int} {p : Int × Int} : p ∈ frameL w h ↔ ∃ x y : Nat, (x : Int) < w ∧ (y : Int) < h ∧ onFrame w x y = true ∧ p = ((x : Int), (y : Int)) := by
  unfold frameL frameCol
  rw [List.mem_flatMap]
  constructor
  · rintro ⟨x, hx, hp⟩
    obtain ⟨y, hy, rfl⟩ := List.mem_map.mp hp
    obtain ⟨hy, ho⟩ := List.mem_filter.mp hy
    have := List.mem_range.mp hx
    have := List.mem_range.mp hy
    exact ⟨x, y, by omega, by omega, ho, rfl⟩
  · rintro ⟨x, y, hx, hy, ho, rfl⟩
    exact ⟨x, List.mem_range.mpr (by omega), List.mem_map.mpr ⟨y, List.mem_filter.mpr ⟨List.mem_range.mpr (by omega), ho⟩, rfl⟩⟩
theorem sd_frame {n : Nat} {b : Bed} (hb : WB n b) : b.sd.map plc = frameL b.w b.h ↔ ∀ x y : Nat, (x : Int) < b.w → (y : Int) < b.h → (((x : Int), (y : Int)) ∈ b.sd.map plc ↔ onFrame b.w x y = true) := by
  constructor
  · intro e x y hx hy
    rw [e, frame_mem]
    constructor
    · rintro ⟨x', y', _, _, ho, e⟩
      rw [Prod.mk.injEq] at e
      have e1 : x = x' := by omega
      have e2 : y = y' := by omega
      rw [e1, e2]
      exact ho
    · exact fun ho => ⟨x, y, hx, hy, ho, rfl⟩
  · intro h
    refine ext_sorted (R := LtP) (fun a => by unfold LtP; omega) (fun a b c => by unfold LtP; omega) (by rw [List.pairwise_map]; exact hb.up) (frame_up _ _) fun p => ?_
    rw [frame_mem]
    constructor
    · intro hp
      obtain ⟨t, ht, e⟩ := List.mem_map.mp hp
      have f := hb.fl t ht
      have e' : p = (((t.1.toNat : Nat) : Int), ((t.2.1.toNat : Nat) : Int)) := by
        rw [← e]
        unfold plc
        rw [Prod.mk.injEq]
        omega
      refine ⟨t.1.toNat, t.2.1.toNat, by omega, by omega, ?_, e'⟩
      rw [← h _ _ (by omega) (by omega), ← e']
      exact hp
    · rintro ⟨x, y, hx, hy, ho, rfl⟩
      exact (h x y hx hy).mpr ho
def esD (k : Kd) : D := .tup [.str k.e, .str k.s]
def se (k : Kd) : Str × Str := (k.s, k.e)
theorem esD_inj {k j : Kd} : esD k = esD j ↔ se k = se j := by
  unfold esD se
  rw [D.tup.injEq, List.cons.injEq, List.cons.injEq, D.str.injEq, D.str.injEq, Prod.mk.injEq]
  simp [and_comm]
theorem esD_mem {k : Kd} {l : List Kd} : esD k ∈ l.map esD ↔ se k ∈ l.map se := by
  simp only [List.mem_map, esD_inj]
theorem esD_pln {n : Nat} {k : Kd} (h : KdOk k) : pln (n + 1) (esD k) = true := by
  unfold esD
  exact strs_pln (n := n) (ss := [k.e, k.s]) (by
    intro s hs
    simp only [List.mem_cons, List.not_mem_nil, or_false] at hs
    rcases hs with rfl | rfl
    · exact h.e
    · exact h.s)
theorem take_snoc {α : Type} {l : List α} {j : Nat} {x : α} (h : l[j]? = some x) : l.take (j + 1) = l.take j ++ [x] := by rw [List.take_add_one, h]; rfl
theorem f2_has {k : Kd} (ko : KdOk k) {M : Mem} : opIn (.str "") (.tup [.str k.n, .str k.e, .str k.s, .str k.w]) M = some (.bl (hasE k), M) := in_of (inB_tup (by decide +kernel) (strs_pln (ss := [k.n, k.e, k.s, k.w]) (by
      intro s hs
      simp only [List.mem_cons, List.not_mem_nil, or_false] at hs
      rcases hs with rfl | rfl | rfl | rfl
      · exact ko.n
      · exact ko.e
      · exact ko.s
      · exact ko.w)))
theorem look_spec {n : Nat} {b : Bed} {M : Mem} (hb : WB n b) (hn : n ≤ 50) : wF F_law_look [b.d] M fun d M' => d = .bl (framedB b) ∧ Go [] M M' := by
  refine wF_fn rfl ?_
  unfold m_law_look Bed.d Bed.ho Bed.fl
  have hw := hb.w
  have hh := hb.h
  have sl := hb.sl
  have kl := hb.ks
  have tl := hb.st
  try (simp (config := { maxSteps := 1000000 }) only [wS_seq, wS_nx, wS_expr, wS_ret, wS_retN, wS_asg, wS_par2, wS_par3, wS_sub, wS_if, wS_for, wS_brk, wS_cont, wS_pass, after_nx, after_rt, after_bk, after_ct, wE_bind, wE_pure, wE_mem, wE_var, wE_call, wE_bin, wE_un, wE_nil, wE_cons, wE_tup, wE_lst, wE_cb, wE_lenSet, wE_meth, wE_tOfE, wE_tTru, wE_tAnd, wE_tOr, wE_tNot, wE_tYes, wE_if, wE_and, wE_or, wE_not, wE_oNo, wE_oSome, wE_sl, wE_iOf, wE_iSeq, gN_f, gT_f, gsNil_f, gsCons_f, wM_some, wM_newL, wM_if, List.getElem?_cons_zero, List.getElem?_cons_succ, List.set_cons_zero, List.set_cons_succ, List.map_cons, List.map_nil, List.cons_append, List.nil_append, Nat.reduceSub, List.replicate_succ, List.replicate_zero, List.length_cons, List.length_nil, Nat.reduceAdd, Option.some.injEq, exists_eq_left', exists_eq_left, D.bl.injEq, D.int.injEq, List.cons.injEq, and_true, true_and, exists_and_left, reduceCtorEq, false_and, and_false, exists_false, exists_const, if_true, if_false, Bool.false_eq_true, wipeE, ite_true, ite_false, exists_and_right, DL.eq_int, DL.ne_int, DL.add_int, DL.sub_int', DL.cmp_int, wM_mul, wM_fdiv, wM_mod, wM_pow, wM_shl, wM_shr, tyD_str, truD_bl, ex1, ex2, exists_eq', exists_eq, Option.bind_some])
  by_cases q : b.en ≠ 2
  · have hq : decide (b.en = 2) = false := decide_eq_false q
    try (simp (config := { maxSteps := 1000000 }) only [wS_seq, wS_nx, wS_expr, wS_ret, wS_retN, wS_asg, wS_par2, wS_par3, wS_sub, wS_if, wS_for, wS_brk, wS_cont, wS_pass, after_nx, after_rt, after_bk, after_ct, wE_bind, wE_pure, wE_mem, wE_var, wE_call, wE_bin, wE_un, wE_nil, wE_cons, wE_tup, wE_lst, wE_cb, wE_lenSet, wE_meth, wE_tOfE, wE_tTru, wE_tAnd, wE_tOr, wE_tNot, wE_tYes, wE_if, wE_and, wE_or, wE_not, wE_oNo, wE_oSome, wE_sl, wE_iOf, wE_iSeq, gN_f, gT_f, gsNil_f, gsCons_f, wM_some, wM_newL, wM_if, List.getElem?_cons_zero, List.getElem?_cons_succ, List.set_cons_zero, List.set_cons_succ, List.map_cons, List.map_nil, List.cons_append, List.nil_append, Nat.reduceSub, List.replicate_succ, List.replicate_zero, List.length_cons, List.length_nil, Nat.reduceAdd, Option.some.injEq, exists_eq_left', exists_eq_left, D.bl.injEq, D.int.injEq, List.cons.injEq, and_true, true_and, exists_and_left, reduceCtorEq, false_and, and_false, exists_false, exists_const, if_true, if_false, Bool.false_eq_true, wipeE, ite_true, ite_false, exists_and_right, DL.eq_int, DL.ne_int, DL.add_int, DL.sub_int', DL.cmp_int, wM_mul, wM_fdiv, wM_mod, wM_pow, wM_shl, wM_shr, tyD_str, truD_bl, ex1, ex2, exists_eq', exists_eq, Option.bind_some, hq, Bool.not_false])
    refine ⟨?_, Go.refl⟩
    unfold framedB
    rw [hq]
    rfl
  have hq : decide (b.en = 2) = true := by simpa using q
  try (simp (config := { maxSteps := 1000000 }) only [wS_seq, wS_nx, wS_expr, wS_ret, wS_retN, wS_asg, wS_par2, wS_par3, wS_sub, wS_if, wS_for, wS_brk, wS_cont, wS_pass, after_nx, after_rt, after_bk, after_ct, wE_bind, wE_pure, wE_mem, wE_var, wE_call, wE_bin, wE_un, wE_nil, wE_cons, wE_tup, wE_lst, wE_cb, wE_lenSet, wE_meth, wE_tOfE, wE_tTru, wE_tAnd, wE_tOr, wE_tNot, wE_tYes, wE_if, wE_and, wE_or, wE_not, wE_oNo, wE_oSome, wE_sl, wE_iOf, wE_iSeq, gN_f, gT_f, gsNil_f, gsCons_f, wM_some, wM_newL, wM_if, List.getElem?_cons_zero, List.getElem?_cons_succ, List.set_cons_zero, List.set_cons_succ, List.map_cons, List.map_nil, List.cons_append, List.nil_append, Nat.reduceSub, List.replicate_succ, List.replicate_zero, List.length_cons, List.length_nil, Nat.reduceAdd, Option.some.injEq, exists_eq_left', exists_eq_left, D.bl.injEq, D.int.injEq, List.cons.injEq, and_true, true_and, exists_and_left, reduceCtorEq, false_and, and_false, exists_false, exists_const, if_true, if_false, Bool.false_eq_true, wipeE, ite_true, ite_false, exists_and_right, DL.eq_int, DL.ne_int, DL.add_int, DL.sub_int', DL.cmp_int, wM_mul, wM_fdiv, wM_mod, wM_pow, wM_shl, wM_shr, tyD_str, truD_bl, ex1, ex2, exists_eq', exists_eq, Option.bind_some, hq, Bool.not_true])
  refine lc_pure (fun d => match d with | .tup [_, .int z] => !decide (z = 1) | _ => false) (fun d => match d with | .tup [x, _] => x | _ => .non) ?_
  try (simp (config := { maxSteps := 1000000 }) only [wS_seq, wS_nx, wS_expr, wS_ret, wS_retN, wS_asg, wS_par2, wS_par3, wS_sub, wS_if, wS_for, wS_brk, wS_cont, wS_pass, after_nx, after_rt, after_bk, after_ct, wE_bind, wE_pure, wE_mem, wE_var, wE_call, wE_bin, wE_un, wE_nil, wE_cons, wE_tup, wE_lst, wE_cb, wE_lenSet, wE_meth, wE_tOfE, wE_tTru, wE_tAnd, wE_tOr, wE_tNot, wE_tYes, wE_if, wE_and, wE_or, wE_not, wE_oNo, wE_oSome, wE_sl, wE_iOf, wE_iSeq, gN_f, gT_f, gsNil_f, gsCons_f, wM_some, wM_newL, wM_if, List.getElem?_cons_zero, List.getElem?_cons_succ, List.set_cons_zero, List.set_cons_succ, List.map_cons, List.map_nil, List.cons_append, List.nil_append, Nat.reduceSub, List.replicate_succ, List.replicate_zero, List.length_cons, List.length_nil, Nat.reduceAdd, Option.some.injEq, exists_eq_left', exists_eq_left, D.bl.injEq, D.int.injEq, List.cons.injEq, and_true, true_and, exists_and_left, reduceCtorEq, false_and, and_false, exists_false, exists_const, if_true, if_false, Bool.false_eq_true, wipeE, ite_true, ite_false, exists_and_right, DL.eq_int, DL.ne_int, DL.add_int, DL.sub_int', DL.cmp_int, wM_mul, wM_fdiv, wM_mod, wM_pow, wM_shl, wM_shr, tyD_str, truD_bl, ex1, ex2, exists_eq', exists_eq, Option.bind_some, itSeq_tup])
  refine ⟨fun _ => trivial, by rw [List.length_map]; omega, ?_, ?_⟩
  · intro x hx
    obtain ⟨p, _, rfl⟩ := List.mem_map.mp hx
    try (simp (config := { maxSteps := 1000000 }) only [wS_seq, wS_nx, wS_expr, wS_ret, wS_retN, wS_asg, wS_par2, wS_par3, wS_sub, wS_if, wS_for, wS_brk, wS_cont, wS_pass, after_nx, after_rt, after_bk, after_ct, wE_bind, wE_pure, wE_mem, wE_var, wE_call, wE_bin, wE_un, wE_nil, wE_cons, wE_tup, wE_lst, wE_cb, wE_lenSet, wE_meth, wE_tOfE, wE_tTru, wE_tAnd, wE_tOr, wE_tNot, wE_tYes, wE_if, wE_and, wE_or, wE_not, wE_oNo, wE_oSome, wE_sl, wE_iOf, wE_iSeq, gN_f, gT_f, gsNil_f, gsCons_f, wM_some, wM_newL, wM_if, List.getElem?_cons_zero, List.getElem?_cons_succ, List.set_cons_zero, List.set_cons_succ, List.map_cons, List.map_nil, List.cons_append, List.nil_append, Nat.reduceSub, List.replicate_succ, List.replicate_zero, List.length_cons, List.length_nil, Nat.reduceAdd, Option.some.injEq, exists_eq_left', exists_eq_left, D.bl.injEq, D.int.injEq, List.cons.injEq, and_true, true_and, exists_and_left, reduceCtorEq, false_and, and_false, exists_false, exists_const, if_true, if_false, Bool.false_eq_true, wipeE, ite_true, ite_false, exists_and_right, DL.eq_int, DL.ne_int, DL.add_int, DL.sub_int', DL.cmp_int, wM_mul, wM_fdiv, wM_mod, wM_pow, wM_shl, wM_shr, tyD_str, truD_bl, ex1, ex2, exists_eq', exists_eq, Option.bind_some, stD])
    intro acc
    simp
  have hst : ∃ ss : List Str, ((b.st.map stD).filter fun d => match d with | .tup [_, .int z] => !decide (z = 1) | _ => false).map (fun d => match d with | .tup [x, _] => x | _ => .non) = ss.map D.str ∧ (∀ x ∈ ss, PyData.strOk x = true) ∧ ss.isEmpty = (b.st.all fun p => decide (p.2 = 1)) := by
    refine ⟨(b.st.filter fun p => !decide (p.2 = 1)).map fun p => p.1, ?_, ?_, ?_⟩
    · rw [List.filter_map, List.map_map, List.map_map]
      rfl
    · intro x hx
      obtain ⟨p, hp, rfl⟩ := List.mem_map.mp hx
      exact hb.so p (List.mem_filter.mp hp).1
    · rw [List.isEmpty_map]
      induction b.st with
      | nil => rfl
      | cons p st ih =>
        rw [List.filter_cons, List.all_cons]
        by_cases e : p.2 = 1
        · rw [decide_eq_true e, if_neg (by simp), ih, Bool.true_and]
        · rw [decide_eq_false e, if_pos (by simp), Bool.false_and]
          rfl
  obtain ⟨ss, es, so, sa⟩ := hst
  rw [es, cNil_lst (neg := true) get_new (strs_pln so), wM_some, if_pos rfl, List.isEmpty_map, sa]
  try (simp (config := { maxSteps := 1000000 }) only [wS_seq, wS_nx, wS_expr, wS_ret, wS_retN, wS_asg, wS_par2, wS_par3, wS_sub, wS_if, wS_for, wS_brk, wS_cont, wS_pass, after_nx, after_rt, after_bk, after_ct, wE_bind, wE_pure, wE_mem, wE_var, wE_call, wE_bin, wE_un, wE_nil, wE_cons, wE_tup, wE_lst, wE_cb, wE_lenSet, wE_meth, wE_tOfE, wE_tTru, wE_tAnd, wE_tOr, wE_tNot, wE_tYes, wE_if, wE_and, wE_or, wE_not, wE_oNo, wE_oSome, wE_sl, wE_iOf, wE_iSeq, gN_f, gT_f, gsNil_f, gsCons_f, wM_some, wM_newL, wM_if, List.getElem?_cons_zero, List.getElem?_cons_succ, List.set_cons_zero, List.set_cons_succ, List.map_cons, List.map_nil, List.cons_append, List.nil_append, Nat.reduceSub, List.replicate_succ, List.replicate_zero, List.length_cons, List.length_nil, Nat.reduceAdd, Option.some.injEq, exists_eq_left', exists_eq_left, D.bl.injEq, D.int.injEq, List.cons.injEq, and_true, true_and, exists_and_left, reduceCtorEq, false_and, and_false, exists_false, exists_const, if_true, if_false, Bool.false_eq_true, wipeE, ite_true, ite_false, exists_and_right, DL.eq_int, DL.ne_int, DL.add_int, DL.sub_int', DL.cmp_int, wM_mul, wM_fdiv, wM_mod, wM_pow, wM_shl, wM_shr, tyD_str, truD_bl, ex1, ex2, exists_eq', exists_eq, Option.bind_some])
  by_cases h1 : (b.st.all fun p => decide (p.2 = 1)) = false
  · try (simp (config := { maxSteps := 1000000 }) only [wS_seq, wS_nx, wS_expr, wS_ret, wS_retN, wS_asg, wS_par2, wS_par3, wS_sub, wS_if, wS_for, wS_brk, wS_cont, wS_pass, after_nx, after_rt, after_bk, after_ct, wE_bind, wE_pure, wE_mem, wE_var, wE_call, wE_bin, wE_un, wE_nil, wE_cons, wE_tup, wE_lst, wE_cb, wE_lenSet, wE_meth, wE_tOfE, wE_tTru, wE_tAnd, wE_tOr, wE_tNot, wE_tYes, wE_if, wE_and, wE_or, wE_not, wE_oNo, wE_oSome, wE_sl, wE_iOf, wE_iSeq, gN_f, gT_f, gsNil_f, gsCons_f, wM_some, wM_newL, wM_if, List.getElem?_cons_zero, List.getElem?_cons_succ, List.set_cons_zero, List.set_cons_succ, List.map_cons, List.map_nil, List.cons_append, List.nil_append, Nat.reduceSub, List.replicate_succ, List.replicate_zero, List.length_cons, List.length_nil, Nat.reduceAdd, Option.some.injEq, exists_eq_left', exists_eq_left, D.bl.injEq, D.int.injEq, List.cons.injEq, and_true, true_and, exists_and_left, reduceCtorEq, false_and, and_false, exists_false, exists_const, if_true, if_false, Bool.false_eq_true, wipeE, ite_true, ite_false, exists_and_right, DL.eq_int, DL.ne_int, DL.add_int, DL.sub_int', DL.cmp_int, wM_mul, wM_fdiv, wM_mod, wM_pow, wM_shl, wM_shr, tyD_str, truD_bl, ex1, ex2, exists_eq', exists_eq, Option.bind_some, h1, Bool.not_false])
    refine ⟨?_, Go.app⟩
    unfold framedB
    rw [hq, h1]
    rfl
  have h1t : (b.st.all fun p => decide (p.2 = 1)) = true := by simpa using h1
  try (simp (config := { maxSteps := 1000000 }) only [wS_seq, wS_nx, wS_expr, wS_ret, wS_retN, wS_asg, wS_par2, wS_par3, wS_sub, wS_if, wS_for, wS_brk, wS_cont, wS_pass, after_nx, after_rt, after_bk, after_ct, wE_bind, wE_pure, wE_mem, wE_var, wE_call, wE_bin, wE_un, wE_nil, wE_cons, wE_tup, wE_lst, wE_cb, wE_lenSet, wE_meth, wE_tOfE, wE_tTru, wE_tAnd, wE_tOr, wE_tNot, wE_tYes, wE_if, wE_and, wE_or, wE_not, wE_oNo, wE_oSome, wE_sl, wE_iOf, wE_iSeq, gN_f, gT_f, gsNil_f, gsCons_f, wM_some, wM_newL, wM_if, List.getElem?_cons_zero, List.getElem?_cons_succ, List.set_cons_zero, List.set_cons_succ, List.map_cons, List.map_nil, List.cons_append, List.nil_append, Nat.reduceSub, List.replicate_succ, List.replicate_zero, List.length_cons, List.length_nil, Nat.reduceAdd, Option.some.injEq, exists_eq_left', exists_eq_left, D.bl.injEq, D.int.injEq, List.cons.injEq, and_true, true_and, exists_and_left, reduceCtorEq, false_and, and_false, exists_false, exists_const, if_true, if_false, Bool.false_eq_true, wipeE, ite_true, ite_false, exists_and_right, DL.eq_int, DL.ne_int, DL.add_int, DL.sub_int', DL.cmp_int, wM_mul, wM_fdiv, wM_mod, wM_pow, wM_shl, wM_shr, tyD_str, truD_bl, ex1, ex2, exists_eq', exists_eq, Option.bind_some, h1t, Bool.not_true])
  have go1 : Go [] M (M ++ [MO.lst (ss.map D.str)]) := Go.app
  generalize M ++ [MO.lst (ss.map D.str)] = N1 at go1
  have een : ∀ M, enumG [.tup (b.ks.map Kd.d)] M = some (pairs (b.ks.map Kd.d), fun _ => true) := fun _ => rfl
  try (simp (config := { maxSteps := 1000000 }) only [wS_seq, wS_nx, wS_expr, wS_ret, wS_retN, wS_asg, wS_par2, wS_par3, wS_sub, wS_if, wS_for, wS_brk, wS_cont, wS_pass, after_nx, after_rt, after_bk, after_ct, wE_bind, wE_pure, wE_mem, wE_var, wE_call, wE_bin, wE_un, wE_nil, wE_cons, wE_tup, wE_lst, wE_cb, wE_lenSet, wE_meth, wE_tOfE, wE_tTru, wE_tAnd, wE_tOr, wE_tNot, wE_tYes, wE_if, wE_and, wE_or, wE_not, wE_oNo, wE_oSome, wE_sl, wE_iOf, wE_iSeq, gN_f, gT_f, gsNil_f, gsCons_f, wM_some, wM_newL, wM_if, List.getElem?_cons_zero, List.getElem?_cons_succ, List.set_cons_zero, List.set_cons_succ, List.map_cons, List.map_nil, List.cons_append, List.nil_append, Nat.reduceSub, List.replicate_succ, List.replicate_zero, List.length_cons, List.length_nil, Nat.reduceAdd, Option.some.injEq, exists_eq_left', exists_eq_left, D.bl.injEq, D.int.injEq, List.cons.injEq, and_true, true_and, exists_and_left, reduceCtorEq, false_and, and_false, exists_false, exists_const, if_true, if_false, Bool.false_eq_true, wipeE, ite_true, ite_false, exists_and_right, DL.eq_int, DL.ne_int, DL.add_int, DL.sub_int', DL.cmp_int, wM_mul, wM_fdiv, wM_mod, wM_pow, wM_shl, wM_shr, tyD_str, truD_bl, ex1, ex2, exists_eq', exists_eq, Option.bind_some, een])
  generalize hB : D.tup [.tup [.int b.en, .tup (b.st.map stD), .tup (b.ks.map Kd.d)], .tup [.int b.w, .int b.h], .tup (b.sd.map sdD)] = B
  refine wp_for0 (fun j ρ M' => (∃ x y, ρ = [some B, some (.int b.en), some (.tup (b.st.map stD)), some (.tup (b.ks.map Kd.d)), some (.int b.w), some (.int b.h), some (.tup (b.sd.map sdD)), x, y, none, none, none, none, none, none, none]) ∧ ((b.ks.take j).all fun k => !hasE k) = true ∧ ((b.ks.take j).map se).Nodup ∧ Go [] N1 M') ?_ ?_ ?_
  · exact ⟨⟨_, _, rfl⟩, by simp, by simp, Go.refl⟩
  · rintro j x ρ M3 hj ⟨⟨x1, x2, rfl⟩, ha, hnd, g3⟩
    obtain ⟨d, hd, rfl⟩ := pairs_get hj
    obtain ⟨k, hk, rfl⟩ : ∃ k, b.ks[j]? = some k ∧ d = k.d := by
      rw [List.getElem?_map] at hd
      obtain ⟨k, e, rfl⟩ := Option.map_eq_some_iff.mp hd
      exact ⟨k, e, rfl⟩
    have km := List.mem_of_getElem? hk
    have jl := lt_of hk
    have ko := hb.ko k km
    refine ⟨rfl, _, rfl, ?_⟩
    have f1 : ∀ M, opSl k.d (some 1) none M = some (.tup [.str k.n, .str k.e, .str k.s, .str k.w], M) := fun M => rfl
    have f2 := fun M => f2_has (M := M) ko
    try (simp (config := { maxSteps := 1000000 }) only [wS_seq, wS_nx, wS_expr, wS_ret, wS_retN, wS_asg, wS_par2, wS_par3, wS_sub, wS_if, wS_for, wS_brk, wS_cont, wS_pass, after_nx, after_rt, after_bk, after_ct, wE_bind, wE_pure, wE_mem, wE_var, wE_call, wE_bin, wE_un, wE_nil, wE_cons, wE_tup, wE_lst, wE_cb, wE_lenSet, wE_meth, wE_tOfE, wE_tTru, wE_tAnd, wE_tOr, wE_tNot, wE_tYes, wE_if, wE_and, wE_or, wE_not, wE_oNo, wE_oSome, wE_sl, wE_iOf, wE_iSeq, gN_f, gT_f, gsNil_f, gsCons_f, wM_some, wM_newL, wM_if, List.getElem?_cons_zero, List.getElem?_cons_succ, List.set_cons_zero, List.set_cons_succ, List.map_cons, List.map_nil, List.cons_append, List.nil_append, Nat.reduceSub, List.replicate_succ, List.replicate_zero, List.length_cons, List.length_nil, Nat.reduceAdd, Option.some.injEq, exists_eq_left', exists_eq_left, D.bl.injEq, D.int.injEq, List.cons.injEq, and_true, true_and, exists_and_left, reduceCtorEq, false_and, and_false, exists_false, exists_const, if_true, if_false, Bool.false_eq_true, wipeE, ite_true, ite_false, exists_and_right, DL.eq_int, DL.ne_int, DL.add_int, DL.sub_int', DL.cmp_int, wM_mul, wM_fdiv, wM_mod, wM_pow, wM_shl, wM_shr, tyD_str, truD_bl, ex1, ex2, exists_eq', exists_eq, Option.bind_some, f1, f2])
    by_cases h2 : hasE k = true
    · try (simp (config := { maxSteps := 1000000 }) only [wS_seq, wS_nx, wS_expr, wS_ret, wS_retN, wS_asg, wS_par2, wS_par3, wS_sub, wS_if, wS_for, wS_brk, wS_cont, wS_pass, after_nx, after_rt, after_bk, after_ct, wE_bind, wE_pure, wE_mem, wE_var, wE_call, wE_bin, wE_un, wE_nil, wE_cons, wE_tup, wE_lst, wE_cb, wE_lenSet, wE_meth, wE_tOfE, wE_tTru, wE_tAnd, wE_tOr, wE_tNot, wE_tYes, wE_if, wE_and, wE_or, wE_not, wE_oNo, wE_oSome, wE_sl, wE_iOf, wE_iSeq, gN_f, gT_f, gsNil_f, gsCons_f, wM_some, wM_newL, wM_if, List.getElem?_cons_zero, List.getElem?_cons_succ, List.set_cons_zero, List.set_cons_succ, List.map_cons, List.map_nil, List.cons_append, List.nil_append, Nat.reduceSub, List.replicate_succ, List.replicate_zero, List.length_cons, List.length_nil, Nat.reduceAdd, Option.some.injEq, exists_eq_left', exists_eq_left, D.bl.injEq, D.int.injEq, List.cons.injEq, and_true, true_and, exists_and_left, reduceCtorEq, false_and, and_false, exists_false, exists_const, if_true, if_false, Bool.false_eq_true, wipeE, ite_true, ite_false, exists_and_right, DL.eq_int, DL.ne_int, DL.add_int, DL.sub_int', DL.cmp_int, wM_mul, wM_fdiv, wM_mod, wM_pow, wM_shl, wM_shr, tyD_str, truD_bl, ex1, ex2, exists_eq', exists_eq, Option.bind_some, h2])
      refine ⟨?_, go1.trans g3⟩
      unfold framedB
      rw [show (b.ks.all fun k => !hasE k) = false from List.all_eq_false.mpr ⟨k, km, by rw [h2]; simp⟩]
      simp
    have h2' : hasE k = false := by simpa using h2
    have f3 : ∀ M, opSl k.d (some 2) (some 4) M = some (esD k, M) := fun M => rfl
    have f4 : ∀ M, opSl (.tup (b.ks.map Kd.d)) none (some (j : Nat)) M = some (.tup ((b.ks.take j).map Kd.d), M) := fun M => by rw [sl_tup', cutD_take rfl (by rw [List.length_map]; omega), List.map_take]
    try (simp (config := { maxSteps := 1000000 }) only [wS_seq, wS_nx, wS_expr, wS_ret, wS_retN, wS_asg, wS_par2, wS_par3, wS_sub, wS_if, wS_for, wS_brk, wS_cont, wS_pass, after_nx, after_rt, after_bk, after_ct, wE_bind, wE_pure, wE_mem, wE_var, wE_call, wE_bin, wE_un, wE_nil, wE_cons, wE_tup, wE_lst, wE_cb, wE_lenSet, wE_meth, wE_tOfE, wE_tTru, wE_tAnd, wE_tOr, wE_tNot, wE_tYes, wE_if, wE_and, wE_or, wE_not, wE_oNo, wE_oSome, wE_sl, wE_iOf, wE_iSeq, gN_f, gT_f, gsNil_f, gsCons_f, wM_some, wM_newL, wM_if, List.getElem?_cons_zero, List.getElem?_cons_succ, List.set_cons_zero, List.set_cons_succ, List.map_cons, List.map_nil, List.cons_append, List.nil_append, Nat.reduceSub, List.replicate_succ, List.replicate_zero, List.length_cons, List.length_nil, Nat.reduceAdd, Option.some.injEq, exists_eq_left', exists_eq_left, D.bl.injEq, D.int.injEq, List.cons.injEq, and_true, true_and, exists_and_left, reduceCtorEq, false_and, and_false, exists_false, exists_const, if_true, if_false, Bool.false_eq_true, wipeE, ite_true, ite_false, exists_and_right, DL.eq_int, DL.ne_int, DL.add_int, DL.sub_int', DL.cmp_int, wM_mul, wM_fdiv, wM_mod, wM_pow, wM_shl, wM_shr, tyD_str, truD_bl, ex1, ex2, exists_eq', exists_eq, Option.bind_some, h2', f3])
    refine lc_all (fun d => match d with | .tup [_, _, e, s, _] => .tup [e, s] | _ => .non) ?_
    try (simp (config := { maxSteps := 1000000 }) only [wS_seq, wS_nx, wS_expr, wS_ret, wS_retN, wS_asg, wS_par2, wS_par3, wS_sub, wS_if, wS_for, wS_brk, wS_cont, wS_pass, after_nx, after_rt, after_bk, after_ct, wE_bind, wE_pure, wE_mem, wE_var, wE_call, wE_bin, wE_un, wE_nil, wE_cons, wE_tup, wE_lst, wE_cb, wE_lenSet, wE_meth, wE_tOfE, wE_tTru, wE_tAnd, wE_tOr, wE_tNot, wE_tYes, wE_if, wE_and, wE_or, wE_not, wE_oNo, wE_oSome, wE_sl, wE_iOf, wE_iSeq, gN_f, gT_f, gsNil_f, gsCons_f, wM_some, wM_newL, wM_if, List.getElem?_cons_zero, List.getElem?_cons_succ, List.set_cons_zero, List.set_cons_succ, List.map_cons, List.map_nil, List.cons_append, List.nil_append, Nat.reduceSub, List.replicate_succ, List.replicate_zero, List.length_cons, List.length_nil, Nat.reduceAdd, Option.some.injEq, exists_eq_left', exists_eq_left, D.bl.injEq, D.int.injEq, List.cons.injEq, and_true, true_and, exists_and_left, reduceCtorEq, false_and, and_false, exists_false, exists_const, if_true, if_false, Bool.false_eq_true, wipeE, ite_true, ite_false, exists_and_right, DL.eq_int, DL.ne_int, DL.add_int, DL.sub_int', DL.cmp_int, wM_mul, wM_fdiv, wM_mod, wM_pow, wM_shl, wM_shr, tyD_str, truD_bl, ex1, ex2, exists_eq', exists_eq, Option.bind_some, f4, itSeq_tup])
    refine ⟨fun _ => trivial, by rw [List.length_map, List.length_take]; omega, ?_, ?_⟩
    · intro x hx
      obtain ⟨k', hk', rfl⟩ := List.mem_map.mp hx
      have f5 : ∀ M, opSl k'.d (some 2) (some 4) M = some (esD k', M) := fun M => rfl
      intro acc
      try (simp (config := { maxSteps := 1000000 }) only [wS_seq, wS_nx, wS_expr, wS_ret, wS_retN, wS_asg, wS_par2, wS_par3, wS_sub, wS_if, wS_for, wS_brk, wS_cont, wS_pass, after_nx, after_rt, after_bk, after_ct, wE_bind, wE_pure, wE_mem, wE_var, wE_call, wE_bin, wE_un, wE_nil, wE_cons, wE_tup, wE_lst, wE_cb, wE_lenSet, wE_meth, wE_tOfE, wE_tTru, wE_tAnd, wE_tOr, wE_tNot, wE_tYes, wE_if, wE_and, wE_or, wE_not, wE_oNo, wE_oSome, wE_sl, wE_iOf, wE_iSeq, gN_f, gT_f, gsNil_f, gsCons_f, wM_some, wM_newL, wM_if, List.getElem?_cons_zero, List.getElem?_cons_succ, List.set_cons_zero, List.set_cons_succ, List.map_cons, List.map_nil, List.cons_append, List.nil_append, Nat.reduceSub, List.replicate_succ, List.replicate_zero, List.length_cons, List.length_nil, Nat.reduceAdd, Option.some.injEq, exists_eq_left', exists_eq_left, D.bl.injEq, D.int.injEq, List.cons.injEq, and_true, true_and, exists_and_left, reduceCtorEq, false_and, and_false, exists_false, exists_const, if_true, if_false, Bool.false_eq_true, wipeE, ite_true, ite_false, exists_and_right, DL.eq_int, DL.ne_int, DL.add_int, DL.sub_int', DL.cmp_int, wM_mul, wM_fdiv, wM_mod, wM_pow, wM_shl, wM_shr, tyD_str, truD_bl, ex1, ex2, exists_eq', exists_eq, Option.bind_some, f5])
      rfl
    rw [show ((b.ks.take j).map Kd.d).map (fun d => match d with | .tup [_, _, e, s, _] => D.tup [e, s] | _ => .non) = (b.ks.take j).map esD by
      rw [List.map_map]; rfl]
    rw [in_of (inB_ref get_new (esD_pln (n := 38) ko) (List.all_eq_true.mpr fun d hd => by
      obtain ⟨k', hk', rfl⟩ := List.mem_map.mp hd
      exact esD_pln (n := 38) (hb.ko k' (List.mem_of_mem_take hk')))), wM_some]
    try (simp (config := { maxSteps := 1000000 }) only [wS_seq, wS_nx, wS_expr, wS_ret, wS_retN, wS_asg, wS_par2, wS_par3, wS_sub, wS_if, wS_for, wS_brk, wS_cont, wS_pass, after_nx, after_rt, after_bk, after_ct, wE_bind, wE_pure, wE_mem, wE_var, wE_call, wE_bin, wE_un, wE_nil, wE_cons, wE_tup, wE_lst, wE_cb, wE_lenSet, wE_meth, wE_tOfE, wE_tTru, wE_tAnd, wE_tOr, wE_tNot, wE_tYes, wE_if, wE_and, wE_or, wE_not, wE_oNo, wE_oSome, wE_sl, wE_iOf, wE_iSeq, gN_f, gT_f, gsNil_f, gsCons_f, wM_some, wM_newL, wM_if, List.getElem?_cons_zero, List.getElem?_cons_succ, List.set_cons_zero, List.set_cons_succ, List.map_cons, List.map_nil, List.cons_append, List.nil_append, Nat.reduceSub, List.replicate_succ, List.replicate_zero, List.length_cons, List.length_nil, Nat.reduceAdd, Option.some.injEq, exists_eq_left', exists_eq_left, D.bl.injEq, D.int.injEq, List.cons.injEq, and_true, true_and, exists_and_left, reduceCtorEq, false_and, and_false, exists_false, exists_const, if_true, if_false, Bool.false_eq_true, wipeE, ite_true, ite_false, exists_and_right, DL.eq_int, DL.ne_int, DL.add_int, DL.sub_int', DL.cmp_int, wM_mul, wM_fdiv, wM_mod, wM_pow, wM_shl, wM_shr, tyD_str, truD_bl, ex1, ex2, exists_eq', exists_eq, Option.bind_some])
    by_cases h3 : se k ∈ (b.ks.take j).map se
    · try (simp (config := { maxSteps := 1000000 }) only [wS_seq, wS_nx, wS_expr, wS_ret, wS_retN, wS_asg, wS_par2, wS_par3, wS_sub, wS_if, wS_for, wS_brk, wS_cont, wS_pass, after_nx, after_rt, after_bk, after_ct, wE_bind, wE_pure, wE_mem, wE_var, wE_call, wE_bin, wE_un, wE_nil, wE_cons, wE_tup, wE_lst, wE_cb, wE_lenSet, wE_meth, wE_tOfE, wE_tTru, wE_tAnd, wE_tOr, wE_tNot, wE_tYes, wE_if, wE_and, wE_or, wE_not, wE_oNo, wE_oSome, wE_sl, wE_iOf, wE_iSeq, gN_f, gT_f, gsNil_f, gsCons_f, wM_some, wM_newL, wM_if, List.getElem?_cons_zero, List.getElem?_cons_succ, List.set_cons_zero, List.set_cons_succ, List.map_cons, List.map_nil, List.cons_append, List.nil_append, Nat.reduceSub, List.replicate_succ, List.replicate_zero, List.length_cons, List.length_nil, Nat.reduceAdd, Option.some.injEq, exists_eq_left', exists_eq_left, D.bl.injEq, D.int.injEq, List.cons.injEq, and_true, true_and, exists_and_left, reduceCtorEq, false_and, and_false, exists_false, exists_const, if_true, if_false, Bool.false_eq_true, wipeE, ite_true, ite_false, exists_and_right, DL.eq_int, DL.ne_int, DL.add_int, DL.sub_int', DL.cmp_int, wM_mul, wM_fdiv, wM_mod, wM_pow, wM_shl, wM_shr, tyD_str, truD_bl, ex1, ex2, exists_eq', exists_eq, Option.bind_some, decide_eq_true (esD_mem.mpr h3)])
      refine ⟨?_, (go1.trans g3).appN⟩
      have hn : ¬ (b.ks.map fun k => (k.s, k.e)).Nodup := fun hh => by
        have h4 : ((b.ks.take (j + 1)).map se).Nodup := List.Nodup.sublist ((List.take_sublist _ _).map _) hh
        rw [take_snoc hk, List.map_append, List.nodup_append] at h4
        exact h4.2.2 _ h3 _ (by simp) rfl
      unfold framedB
      rw [decide_eq_false hn]
      simp
    · try (simp (config := { maxSteps := 1000000 }) only [wS_seq, wS_nx, wS_expr, wS_ret, wS_retN, wS_asg, wS_par2, wS_par3, wS_sub, wS_if, wS_for, wS_brk, wS_cont, wS_pass, after_nx, after_rt, after_bk, after_ct, wE_bind, wE_pure, wE_mem, wE_var, wE_call, wE_bin, wE_un, wE_nil, wE_cons, wE_tup, wE_lst, wE_cb, wE_lenSet, wE_meth, wE_tOfE, wE_tTru, wE_tAnd, wE_tOr, wE_tNot, wE_tYes, wE_if, wE_and, wE_or, wE_not, wE_oNo, wE_oSome, wE_sl, wE_iOf, wE_iSeq, gN_f, gT_f, gsNil_f, gsCons_f, wM_some, wM_newL, wM_if, List.getElem?_cons_zero, List.getElem?_cons_succ, List.set_cons_zero, List.set_cons_succ, List.map_cons, List.map_nil, List.cons_append, List.nil_append, Nat.reduceSub, List.replicate_succ, List.replicate_zero, List.length_cons, List.length_nil, Nat.reduceAdd, Option.some.injEq, exists_eq_left', exists_eq_left, D.bl.injEq, D.int.injEq, List.cons.injEq, and_true, true_and, exists_and_left, reduceCtorEq, false_and, and_false, exists_false, exists_const, if_true, if_false, Bool.false_eq_true, wipeE, ite_true, ite_false, exists_and_right, DL.eq_int, DL.ne_int, DL.add_int, DL.sub_int', DL.cmp_int, wM_mul, wM_fdiv, wM_mod, wM_pow, wM_shl, wM_shr, tyD_str, truD_bl, ex1, ex2, exists_eq', exists_eq, Option.bind_some, decide_eq_false (mt esD_mem.mp h3)])
      refine ⟨?_, ?_, g3.appN⟩
      · rw [take_snoc hk, List.all_append, ha]
        simp [h2']
      · rw [take_snoc hk, List.map_append, List.nodup_append]
        refine ⟨hnd, by simp, fun a ha b hb e => ?_⟩
        subst e
        simp at hb
        rw [hb] at ha
        exact h3 ha
  · rintro ρ M3 ⟨⟨x1, x2, rfl⟩, ha, hnd, g3⟩
    rw [DL.pairs_len, List.length_map, List.take_length] at ha hnd
    refine ⟨rfl, ?_⟩
    try (simp (config := { maxSteps := 1000000 }) only [wS_seq, wS_nx, wS_expr, wS_ret, wS_retN, wS_asg, wS_par2, wS_par3, wS_sub, wS_if, wS_for, wS_brk, wS_cont, wS_pass, after_nx, after_rt, after_bk, after_ct, wE_bind, wE_pure, wE_mem, wE_var, wE_call, wE_bin, wE_un, wE_nil, wE_cons, wE_tup, wE_lst, wE_cb, wE_lenSet, wE_meth, wE_tOfE, wE_tTru, wE_tAnd, wE_tOr, wE_tNot, wE_tYes, wE_if, wE_and, wE_or, wE_not, wE_oNo, wE_oSome, wE_sl, wE_iOf, wE_iSeq, gN_f, gT_f, gsNil_f, gsCons_f, wM_some, wM_newL, wM_if, List.getElem?_cons_zero, List.getElem?_cons_succ, List.set_cons_zero, List.set_cons_succ, List.map_cons, List.map_nil, List.cons_append, List.nil_append, Nat.reduceSub, List.replicate_succ, List.replicate_zero, List.length_cons, List.length_nil, Nat.reduceAdd, Option.some.injEq, exists_eq_left', exists_eq_left, D.bl.injEq, D.int.injEq, List.cons.injEq, and_true, true_and, exists_and_left, reduceCtorEq, false_and, and_false, exists_false, exists_const, if_true, if_false, Bool.false_eq_true, wipeE, ite_true, ite_false, exists_and_right, DL.eq_int, DL.ne_int, DL.add_int, DL.sub_int', DL.cmp_int, wM_mul, wM_fdiv, wM_mod, wM_pow, wM_shl, wM_shr, tyD_str, truD_bl, ex1, ex2, exists_eq', exists_eq, Option.bind_some])
    have go3 := go1.trans g3
    refine lc_all (fun d => match d with | .tup [x, y, _] => .tup [x, y] | _ => .non) ?_
    try (simp (config := { maxSteps := 1000000 }) only [wS_seq, wS_nx, wS_expr, wS_ret, wS_retN, wS_asg, wS_par2, wS_par3, wS_sub, wS_if, wS_for, wS_brk, wS_cont, wS_pass, after_nx, after_rt, after_bk, after_ct, wE_bind, wE_pure, wE_mem, wE_var, wE_call, wE_bin, wE_un, wE_nil, wE_cons, wE_tup, wE_lst, wE_cb, wE_lenSet, wE_meth, wE_tOfE, wE_tTru, wE_tAnd, wE_tOr, wE_tNot, wE_tYes, wE_if, wE_and, wE_or, wE_not, wE_oNo, wE_oSome, wE_sl, wE_iOf, wE_iSeq, gN_f, gT_f, gsNil_f, gsCons_f, wM_some, wM_newL, wM_if, List.getElem?_cons_zero, List.getElem?_cons_succ, List.set_cons_zero, List.set_cons_succ, List.map_cons, List.map_nil, List.cons_append, List.nil_append, Nat.reduceSub, List.replicate_succ, List.replicate_zero, List.length_cons, List.length_nil, Nat.reduceAdd, Option.some.injEq, exists_eq_left', exists_eq_left, D.bl.injEq, D.int.injEq, List.cons.injEq, and_true, true_and, exists_and_left, reduceCtorEq, false_and, and_false, exists_false, exists_const, if_true, if_false, Bool.false_eq_true, wipeE, ite_true, ite_false, exists_and_right, DL.eq_int, DL.ne_int, DL.add_int, DL.sub_int', DL.cmp_int, wM_mul, wM_fdiv, wM_mod, wM_pow, wM_shl, wM_shr, tyD_str, truD_bl, ex1, ex2, exists_eq', exists_eq, Option.bind_some, itSeq_tup])
    refine ⟨fun _ => trivial, by rw [List.length_map]; omega, ?_, ?_⟩
    · intro x hx
      obtain ⟨t, ht, rfl⟩ := List.mem_map.mp hx
      have f5 : ∀ M, opSl (sdD t) none (some 2) M = some (.tup [.int t.1, .int t.2.1], M) := fun M => rfl
      intro acc
      try (simp (config := { maxSteps := 1000000 }) only [wS_seq, wS_nx, wS_expr, wS_ret, wS_retN, wS_asg, wS_par2, wS_par3, wS_sub, wS_if, wS_for, wS_brk, wS_cont, wS_pass, after_nx, after_rt, after_bk, after_ct, wE_bind, wE_pure, wE_mem, wE_var, wE_call, wE_bin, wE_un, wE_nil, wE_cons, wE_tup, wE_lst, wE_cb, wE_lenSet, wE_meth, wE_tOfE, wE_tTru, wE_tAnd, wE_tOr, wE_tNot, wE_tYes, wE_if, wE_and, wE_or, wE_not, wE_oNo, wE_oSome, wE_sl, wE_iOf, wE_iSeq, gN_f, gT_f, gsNil_f, gsCons_f, wM_some, wM_newL, wM_if, List.getElem?_cons_zero, List.getElem?_cons_succ, List.set_cons_zero, List.set_cons_succ, List.map_cons, List.map_nil, List.cons_append, List.nil_append, Nat.reduceSub, List.replicate_succ, List.replicate_zero, List.length_cons, List.length_nil, Nat.reduceAdd, Option.some.injEq, exists_eq_left', exists_eq_left, D.bl.injEq, D.int.injEq, List.cons.injEq, and_true, true_and, exists_and_left, reduceCtorEq, false_and, and_false, exists_false, exists_const, if_true, if_false, Bool.false_eq_true, wipeE, ite_true, ite_false, exists_and_right, DL.eq_int, DL.ne_int, DL.add_int, DL.sub_int', DL.cmp_int, wM_mul, wM_fdiv, wM_mod, wM_pow, wM_shl, wM_shr, tyD_str, truD_bl, ex1, ex2, exists_eq', exists_eq, Option.bind_some, f5])
      rfl
    rw [show (b.sd.map sdD).map (fun d => match d with | .tup [x, y, _] => D.tup [x, y] | _ => .non) = (b.sd.map plc).map ppD by
      rw [List.map_map, List.map_map]; rfl]
    try (simp (config := { maxSteps := 1000000 }) only [wS_seq, wS_nx, wS_expr, wS_ret, wS_retN, wS_asg, wS_par2, wS_par3, wS_sub, wS_if, wS_for, wS_brk, wS_cont, wS_pass, after_nx, after_rt, after_bk, after_ct, wE_bind, wE_pure, wE_mem, wE_var, wE_call, wE_bin, wE_un, wE_nil, wE_cons, wE_tup, wE_lst, wE_cb, wE_lenSet, wE_meth, wE_tOfE, wE_tTru, wE_tAnd, wE_tOr, wE_tNot, wE_tYes, wE_if, wE_and, wE_or, wE_not, wE_oNo, wE_oSome, wE_sl, wE_iOf, wE_iSeq, gN_f, gT_f, gsNil_f, gsCons_f, wM_some, wM_newL, wM_if, List.getElem?_cons_zero, List.getElem?_cons_succ, List.set_cons_zero, List.set_cons_succ, List.map_cons, List.map_nil, List.cons_append, List.nil_append, Nat.reduceSub, List.replicate_succ, List.replicate_zero, List.length_cons, List.length_nil, Nat.reduceAdd, Option.some.injEq, exists_eq_left', exists_eq_left, D.bl.injEq, D.int.injEq, List.cons.injEq, and_true, true_and, exists_and_left, reduceCtorEq, false_and, and_false, exists_false, exists_const, if_true, if_false, Bool.false_eq_true, wipeE, ite_true, ite_false, exists_and_right, DL.eq_int, DL.ne_int, DL.add_int, DL.sub_int', DL.cmp_int, wM_mul, wM_fdiv, wM_mod, wM_pow, wM_shl, wM_shr, tyD_str, truD_bl, ex1, ex2, exists_eq', exists_eq, Option.bind_some, rng1_ok (show -(2 ^ 62) ≤ b.w ∧ b.w < 2 ^ 62 by omega)])
    have pl : (M3 ++ [MO.lst ((b.sd.map plc).map ppD)])[M3.length]? = some (.lst ((b.sd.map plc).map ppD)) := get_new
    have go4 := go3.appN (N := [MO.lst ((b.sd.map plc).map ppD)])
    generalize M3 ++ [MO.lst ((b.sd.map plc).map ppD)] = N4 at pl go4
    refine wp_for0 (fun j ρ M' => (∃ x y c d, ρ = [some B, some (.int b.en), some (.tup (b.st.map stD)), some (.tup (b.ks.map Kd.d)), some (.int b.w), some (.int b.h), some (.tup (b.sd.map sdD)), x, y, some (.ref M3.length), c, d, none, none, none, none]) ∧ (∀ x y : Nat, x < j → (x : Int) < b.w → (y : Int) < b.h → (((x : Int), (y : Int)) ∈ b.sd.map plc ↔ onFrame b.w x y = true)) ∧ M' = N4) ?_ ?_ ?_
    · exact ⟨⟨_, _, _, _, rfl⟩, by intro x y h; omega, rfl⟩
    · rintro j x ρ M5 hj ⟨⟨x1, x2, x3, x4, rfl⟩, hp, rfl⟩
      obtain ⟨rfl, jl⟩ := upto_at hj
      refine ⟨rfl, _, rfl, ?_⟩
      try (simp (config := { maxSteps := 1000000 }) only [wS_seq, wS_nx, wS_expr, wS_ret, wS_retN, wS_asg, wS_par2, wS_par3, wS_sub, wS_if, wS_for, wS_brk, wS_cont, wS_pass, after_nx, after_rt, after_bk, after_ct, wE_bind, wE_pure, wE_mem, wE_var, wE_call, wE_bin, wE_un, wE_nil, wE_cons, wE_tup, wE_lst, wE_cb, wE_lenSet, wE_meth, wE_tOfE, wE_tTru, wE_tAnd, wE_tOr, wE_tNot, wE_tYes, wE_if, wE_and, wE_or, wE_not, wE_oNo, wE_oSome, wE_sl, wE_iOf, wE_iSeq, gN_f, gT_f, gsNil_f, gsCons_f, wM_some, wM_newL, wM_if, List.getElem?_cons_zero, List.getElem?_cons_succ, List.set_cons_zero, List.set_cons_succ, List.map_cons, List.map_nil, List.cons_append, List.nil_append, Nat.reduceSub, List.replicate_succ, List.replicate_zero, List.length_cons, List.length_nil, Nat.reduceAdd, Option.some.injEq, exists_eq_left', exists_eq_left, D.bl.injEq, D.int.injEq, List.cons.injEq, and_true, true_and, exists_and_left, reduceCtorEq, false_and, and_false, exists_false, exists_const, if_true, if_false, Bool.false_eq_true, wipeE, ite_true, ite_false, exists_and_right, DL.eq_int, DL.ne_int, DL.add_int, DL.sub_int', DL.cmp_int, wM_mul, wM_fdiv, wM_mod, wM_pow, wM_shl, wM_shr, tyD_str, truD_bl, ex1, ex2, exists_eq', exists_eq, Option.bind_some, rng1_ok (show -(2 ^ 62) ≤ b.h ∧ b.h < 2 ^ 62 by omega)])
      refine wp_for0 (fun i ρ M' => (∃ x y d, ρ = [some B, some (.int b.en), some (.tup (b.st.map stD)), some (.tup (b.ks.map Kd.d)), some (.int b.w), some (.int b.h), some (.tup (b.sd.map sdD)), x, y, some (.ref M3.length), some (.int (j : Nat)), d, none, none, none, none]) ∧ (∀ y : Nat, y < i → (((j : Int), (y : Int)) ∈ b.sd.map plc ↔ onFrame b.w j y = true)) ∧ M' = M5) ?_ ?_ ?_
      · exact ⟨⟨_, _, _, rfl⟩, by intro y h; omega, rfl⟩
      · rintro i x ρ M6 hi ⟨⟨x1, x2, x4, rfl⟩, hq2, rfl⟩
        obtain ⟨rfl, il⟩ := upto_at hi
        refine ⟨rfl, _, rfl, ?_⟩
        have e1 : opIn (.tup [.int (j : Nat), .int (i : Nat)]) (.ref M3.length) M6 = some (.bl (decide (ppD ((j : Int), (i : Int)) ∈ (b.sd.map plc).map ppD)), M6) := in_of (inB_ref (d := ppD ((j : Int), (i : Int))) pl (ppD_pln (n := 38) _) (pps_pln _))
        try (simp (config := { maxSteps := 1000000 }) only [wS_seq, wS_nx, wS_expr, wS_ret, wS_retN, wS_asg, wS_par2, wS_par3, wS_sub, wS_if, wS_for, wS_brk, wS_cont, wS_pass, after_nx, after_rt, after_bk, after_ct, wE_bind, wE_pure, wE_mem, wE_var, wE_call, wE_bin, wE_un, wE_nil, wE_cons, wE_tup, wE_lst, wE_cb, wE_lenSet, wE_meth, wE_tOfE, wE_tTru, wE_tAnd, wE_tOr, wE_tNot, wE_tYes, wE_if, wE_and, wE_or, wE_not, wE_oNo, wE_oSome, wE_sl, wE_iOf, wE_iSeq, gN_f, gT_f, gsNil_f, gsCons_f, wM_some, wM_newL, wM_if, List.getElem?_cons_zero, List.getElem?_cons_succ, List.set_cons_zero, List.set_cons_succ, List.map_cons, List.map_nil, List.cons_append, List.nil_append, Nat.reduceSub, List.replicate_succ, List.replicate_zero, List.length_cons, List.length_nil, Nat.reduceAdd, Option.some.injEq, exists_eq_left', exists_eq_left, D.bl.injEq, D.int.injEq, List.cons.injEq, and_true, true_and, exists_and_left, reduceCtorEq, false_and, and_false, exists_false, exists_const, if_true, if_false, Bool.false_eq_true, wipeE, ite_true, ite_false, exists_and_right, DL.eq_int, DL.ne_int, DL.add_int, DL.sub_int', DL.cmp_int, wM_mul, wM_fdiv, wM_mod, wM_pow, wM_shl, wM_shr, tyD_str, truD_bl, ex1, ex2, exists_eq', exists_eq, Option.bind_some, e1])
        refine ⟨size_le (by decide), ?_⟩
        have key : ∀ v : Bool, v = onFrame b.w j i → (if (decide (ppD ((j : Int), (i : Int)) ∈ (b.sd.map plc).map ppD) != v) = true then false = framedB b ∧ Go [] M M6 else (∀ y : Nat, y < i + 1 → (((j : Int), (y : Int)) ∈ b.sd.map plc ↔ onFrame b.w j y = true)) ∧ M6 = M6) := by
          rintro v rfl
          have hdec : decide (ppD ((j : Int), (i : Int)) ∈ (b.sd.map plc).map ppD) = decide (((j : Int), (i : Int)) ∈ b.sd.map plc) := decide_eq_decide.mpr ppD_mem
          rw [hdec]
          by_cases h4 : (((j : Int), (i : Int)) ∈ b.sd.map plc ↔ onFrame b.w j i = true)
          · have h5 : (decide (((j : Int), (i : Int)) ∈ b.sd.map plc) != onFrame b.w j i) = false := by
              cases q5 : onFrame b.w j i <;> simp [q5] at h4 ⊢ <;> exact h4
            rw [h5, if_neg Bool.false_ne_true]
            refine ⟨fun y hy => ?_, rfl⟩
            rcases (by omega : y < i ∨ y = i) with h | rfl
            · exact hq2 y h
            · exact h4
          · have h5 : (decide (((j : Int), (i : Int)) ∈ b.sd.map plc) != onFrame b.w j i) = true := by
              cases q5 : onFrame b.w j i <;> simp [q5] at h4 ⊢ <;> exact h4
            rw [h5, if_pos rfl]
            refine ⟨?_, go4⟩
            have hn2 : ¬ b.sd.map plc = frameL b.w b.h := fun hh => h4 ((sd_frame hb).mp hh j i (by omega) (by omega))
            unfold framedB
            rw [decide_eq_false hn2]
            simp
        by_cases q1 : ((i : Nat) : Int) = 0
        · rw [if_pos (decide_eq_true q1), ne_bl, wM_some]
          exact ⟨_, rfl, key true (by unfold onFrame; rw [decide_eq_true q1]; rfl)⟩
        · rw [if_neg (by rw [decide_eq_false q1]; exact Bool.false_ne_true), ne_bl, wM_some]
          exact ⟨_, rfl, key _ (by unfold onFrame; rw [decide_eq_false q1]; rfl)⟩
      · rintro ρ M6 ⟨⟨x1, x2, x4, rfl⟩, hq2, rfl⟩
        refine ⟨rfl, ⟨_, _, _, _, rfl⟩, ?_, rfl⟩
        intro x y hx hxw hyh
        rcases (by omega : x < j ∨ x = j) with h | rfl
        · exact hp x y h hxw hyh
        · refine hq2 y ?_
          rw [upto_nat, List.length_map, List.length_range]
          omega
    · rintro ρ M5 ⟨⟨x1, x2, x3, x4, rfl⟩, hp, rfl⟩
      refine ⟨rfl, ?_⟩
      try (simp (config := { maxSteps := 1000000 }) only [wS_seq, wS_nx, wS_expr, wS_ret, wS_retN, wS_asg, wS_par2, wS_par3, wS_sub, wS_if, wS_for, wS_brk, wS_cont, wS_pass, after_nx, after_rt, after_bk, after_ct, wE_bind, wE_pure, wE_mem, wE_var, wE_call, wE_bin, wE_un, wE_nil, wE_cons, wE_tup, wE_lst, wE_cb, wE_lenSet, wE_meth, wE_tOfE, wE_tTru, wE_tAnd, wE_tOr, wE_tNot, wE_tYes, wE_if, wE_and, wE_or, wE_not, wE_oNo, wE_oSome, wE_sl, wE_iOf, wE_iSeq, gN_f, gT_f, gsNil_f, gsCons_f, wM_some, wM_newL, wM_if, List.getElem?_cons_zero, List.getElem?_cons_succ, List.set_cons_zero, List.set_cons_succ, List.map_cons, List.map_nil, List.cons_append, List.nil_append, Nat.reduceSub, List.replicate_succ, List.replicate_zero, List.length_cons, List.length_nil, Nat.reduceAdd, Option.some.injEq, exists_eq_left', exists_eq_left, D.bl.injEq, D.int.injEq, List.cons.injEq, and_true, true_and, exists_and_left, reduceCtorEq, false_and, and_false, exists_false, exists_const, if_true, if_false, Bool.false_eq_true, wipeE, ite_true, ite_false, exists_and_right, DL.eq_int, DL.ne_int, DL.add_int, DL.sub_int', DL.cmp_int, wM_mul, wM_fdiv, wM_mod, wM_pow, wM_shl, wM_shr, tyD_str, truD_bl, ex1, ex2, exists_eq', exists_eq, Option.bind_some])
      refine ⟨?_, go4⟩
      unfold framedB
      rw [hq, h1t, ha, decide_eq_true (show (b.ks.map fun k => (k.s, k.e)).Nodup from hnd), decide_eq_true ((sd_frame hb).mpr fun x y hx hy => hp x y (by
        rw [upto_nat, List.length_map, List.length_range]
        omega) hx hy)]
      rfl
end G

namespace G
open PySem PySem.Spec PyProof.Rows L2 DL
theorem Framed.wb {b : Bed} {most : Int} (h : Framed b most 9) (hm : most ≤ 12) : WB 0 b := by
  obtain ⟨ns, es, n1, n2, nd, nok, _, km⟩ := h.st
  have hw := h.w
  have hh := h.h
  have hk := h.ks
  have hmem : ∀ t ∈ b.sd, ∃ x y : Nat, (x : Int) < b.w ∧ (y : Int) < b.h ∧ onFrame b.w x y = true ∧ plc t = ((x : Int), (y : Int)) := fun t ht => by
    have : plc t ∈ b.sd.map plc := List.mem_map.mpr ⟨t, ht, rfl⟩
    rw [show b.sd.map plc = frameL b.w b.h from h.sd] at this
    exact frame_mem.mp this
  refine ⟨?_, ?_, ⟨hk.1, by omega⟩, ?_, ⟨hw.1, by omega⟩, ⟨hh.1, by omega⟩, ?_, ?_, ?_⟩
  · rw [es, List.length_map]
    omega
  · intro p hp
    rw [es] at hp
    obtain ⟨x, hx, rfl⟩ := List.mem_map.mp hp
    exact (nok x hx).ok
  · intro k hk
    have m := km k hk
    exact ⟨strOk_cl.mpr fun c hc => by have := (h.fc k hk).2 c hc; omega, (nok _ m.1).ok, (nok _ m.2.1).ok, (nok _ m.2.2.1).ok, (nok _ m.2.2.2).ok⟩
  · have : b.sd.length = (frameL b.w b.h).length := by rw [← h.sd, List.length_map]
    rw [this]
    unfold frameL
    rw [List.length_flatMap]
    have h1 : ∀ l : List Nat, (l.map fun x => (frameCol b.w b.h x).length).sum ≤ l.length * 12 := by
      intro l
      induction l with
      | nil => simp
      | cons x l ih =>
        rw [List.map_cons, List.sum_cons, List.length_cons]
        have : (frameCol b.w b.h x).length ≤ 12 := by
          unfold frameCol
          rw [List.length_map]
          have := List.length_filter_le (fun y => onFrame b.w x y) (List.range b.h.toNat)
          rw [List.length_range] at this
          omega
        omega
    have := h1 (List.range b.w.toNat)
    rw [List.length_range] at this
    omega
  · have := frame_up b.w b.h
    rw [← show b.sd.map plc = frameL b.w b.h from h.sd, List.pairwise_map] at this
    exact this
  · intro t ht
    obtain ⟨x, y, hx, hy, _, e⟩ := hmem t ht
    unfold plc at e
    rw [Prod.mk.injEq] at e
    omega
theorem Framed.yes {b : Bed} {most : Int} (h : Framed b most 9) : framedB b = true := by
  obtain ⟨ns, es, n1, n2, nd, nok, _, km⟩ := h.st
  unfold framedB
  rw [decide_eq_true h.en, decide_eq_true h.nd, decide_eq_true (show b.sd.map plc = frameL b.w b.h from h.sd)]
  have h1 : (b.st.all fun p => decide (p.2 = 1)) = true := by
    rw [es, List.all_map, List.all_eq_true]
    intro x _
    rfl
  have h2 : (b.ks.all fun k => !hasE k) = true := by
    rw [List.all_eq_true]
    intro k hk
    have m := km k hk
    unfold hasE
    rw [decide_eq_false (fun hm => ?_)]
    · rfl
    · simp only [List.mem_cons, List.not_mem_nil, or_false, D.str.injEq] at hm
      rcases hm with e | e | e | e
      · exact (nok _ m.1).ne e.symm
      · exact (nok _ m.2.1).ne e.symm
      · exact (nok _ m.2.2.1).ne e.symm
      · exact (nok _ m.2.2.2).ne e.symm
  rw [h1, h2]
  rfl
theorem Framed.no {b : Bed} {most : Int} (h : Framed b most 9) : framedB { b with sd := [] } = false := by
  have hw := h.w
  have hh := h.h
  have : ¬ ([] : List (Int × Int × Int)).map plc = frameL b.w b.h := fun e => by
    have h0 : ((0 : Int), (0 : Int)) ∈ frameL b.w b.h := frame_mem.mpr ⟨0, 0, by omega, by omega, rfl, rfl⟩
    rw [← e] at h0
    cases h0
  unfold framedB
  dsimp only
  rw [decide_eq_false this, Bool.and_false]
theorem sds_pln {n : Nat} (l : List (Int × Int × Int)) : (l.map sdD).all (pln (n + 1)) = true := by
  rw [List.all_eq_true]
  intro d hd
  obtain ⟨p, _, rfl⟩ := List.mem_map.mp hd
  cases n <;> rfl
theorem ex_is {α : Type} {M : Mem} {a : α} {f : Cp α} : True := trivial
theorem wF_run {F : Fn} {ds : List D} {M : Mem} {v : D} {Q : D → Mem → Prop} (h : wF F ds M Q) (hq : ∀ d M', Q d M' → d = v) : ∃ M', F ds M = some (.ok v, M') := by
  obtain ⟨d, M', e, q⟩ := h
  rw [hq d M' q] at e
  exact ⟨M', e⟩
theorem isB {a b : Bool} {M : Mem} : opNotB (.bl a) (.bl b) M = some (.bl (!decide (a = b)), M) := rfl
theorem isi_bool {a : Bool} {M : Mem} : cIsi [.bl a, .ty "bool"] M = some (.bl true, M) := rfl
theorem int_bl {a : Bool} {M : Mem} : cInt [.bl a] M = some (.int (if a = true then 1 else 0), M) := rfl
theorem law_spec {ns : List Int} (h : ns.length ≤ 63) : wF F_law [.fls (ns.map .int)] [] fun d M' => d = .bl true := by
  refine wF_fn rfl ?_
  unfold m_law
  try (simp (config := { maxSteps := 1000000 }) only [wS_seq, wS_nx, wS_expr, wS_ret, wS_retN, wS_asg, wS_par2, wS_par3, wS_sub, wS_if, wS_for, wS_brk, wS_cont, wS_pass, after_nx, after_rt, after_bk, after_ct, wE_bind, wE_pure, wE_mem, wE_var, wE_call, wE_bin, wE_un, wE_nil, wE_cons, wE_tup, wE_lst, wE_cb, wE_lenSet, wE_meth, wE_tOfE, wE_tTru, wE_tAnd, wE_tOr, wE_tNot, wE_tYes, wE_if, wE_and, wE_or, wE_not, wE_oNo, wE_oSome, wE_sl, wE_iOf, wE_iSeq, gN_f, gT_f, gsNil_f, gsCons_f, wM_some, wM_newL, wM_if, List.getElem?_cons_zero, List.getElem?_cons_succ, List.set_cons_zero, List.set_cons_succ, List.map_cons, List.map_nil, List.cons_append, List.nil_append, Nat.reduceSub, List.replicate_succ, List.replicate_zero, List.length_cons, List.length_nil, Nat.reduceAdd, Option.some.injEq, exists_eq_left', exists_eq_left, D.bl.injEq, D.int.injEq, List.cons.injEq, and_true, true_and, exists_and_left, reduceCtorEq, false_and, and_false, exists_false, exists_const, if_true, if_false, Bool.false_eq_true, wipeE, ite_true, ite_false, exists_and_right, DL.eq_int, DL.ne_int, DL.add_int, DL.sub_int', DL.cmp_int, wM_mul, wM_fdiv, wM_mod, wM_pow, wM_shl, wM_shr, tyD_str, truD_bl, ex1, ex2, exists_eq', exists_eq, Option.bind_some])
  refine (start_spec h).imp ?_
  rintro _ M1 ⟨s, o, rfl, s1⟩
  try (simp (config := { maxSteps := 1000000 }) only [wS_seq, wS_nx, wS_expr, wS_ret, wS_retN, wS_asg, wS_par2, wS_par3, wS_sub, wS_if, wS_for, wS_brk, wS_cont, wS_pass, after_nx, after_rt, after_bk, after_ct, wE_bind, wE_pure, wE_mem, wE_var, wE_call, wE_bin, wE_un, wE_nil, wE_cons, wE_tup, wE_lst, wE_cb, wE_lenSet, wE_meth, wE_tOfE, wE_tTru, wE_tAnd, wE_tOr, wE_tNot, wE_tYes, wE_if, wE_and, wE_or, wE_not, wE_oNo, wE_oSome, wE_sl, wE_iOf, wE_iSeq, gN_f, gT_f, gsNil_f, gsCons_f, wM_some, wM_newL, wM_if, List.getElem?_cons_zero, List.getElem?_cons_succ, List.set_cons_zero, List.set_cons_succ, List.map_cons, List.map_nil, List.cons_append, List.nil_append, Nat.reduceSub, List.replicate_succ, List.replicate_zero, List.length_cons, List.length_nil, Nat.reduceAdd, Option.some.injEq, exists_eq_left', exists_eq_left, D.bl.injEq, D.int.injEq, List.cons.injEq, and_true, true_and, exists_and_left, reduceCtorEq, false_and, and_false, exists_false, exists_const, if_true, if_false, Bool.false_eq_true, wipeE, ite_true, ite_false, exists_and_right, DL.eq_int, DL.ne_int, DL.add_int, DL.sub_int', DL.cmp_int, wM_mul, wM_fdiv, wM_mod, wM_pow, wM_shl, wM_shr, tyD_str, truD_bl, ex1, ex2, exists_eq', exists_eq, Option.bind_some, rng1_ok (show -(2 ^ 62) ≤ (3 : Int) ∧ (3 : Int) < 2 ^ 62 by omega)])
  generalize hS : D.fls (ns.map .int) = S
  refine wp_for0 (fun j ρ M' => (∃ a b c d e, ρ = [some S, some (.ref s), a, b, c, d, e]) ∧ St s o M') ⟨⟨_, _, _, _, _, rfl⟩, s1⟩ ?_ ?_
  · rintro j x ρ M2 hj ⟨⟨a, b, c, d, e, rfl⟩, s2⟩
    refine ⟨rfl, _, rfl, ?_⟩
    try (simp (config := { maxSteps := 1000000 }) only [wS_seq, wS_nx, wS_expr, wS_ret, wS_retN, wS_asg, wS_par2, wS_par3, wS_sub, wS_if, wS_for, wS_brk, wS_cont, wS_pass, after_nx, after_rt, after_bk, after_ct, wE_bind, wE_pure, wE_mem, wE_var, wE_call, wE_bin, wE_un, wE_nil, wE_cons, wE_tup, wE_lst, wE_cb, wE_lenSet, wE_meth, wE_tOfE, wE_tTru, wE_tAnd, wE_tOr, wE_tNot, wE_tYes, wE_if, wE_and, wE_or, wE_not, wE_oNo, wE_oSome, wE_sl, wE_iOf, wE_iSeq, gN_f, gT_f, gsNil_f, gsCons_f, wM_some, wM_newL, wM_if, List.getElem?_cons_zero, List.getElem?_cons_succ, List.set_cons_zero, List.set_cons_succ, List.map_cons, List.map_nil, List.cons_append, List.nil_append, Nat.reduceSub, List.replicate_succ, List.replicate_zero, List.length_cons, List.length_nil, Nat.reduceAdd, Option.some.injEq, exists_eq_left', exists_eq_left, D.bl.injEq, D.int.injEq, List.cons.injEq, and_true, true_and, exists_and_left, reduceCtorEq, false_and, and_false, exists_false, exists_const, if_true, if_false, Bool.false_eq_true, wipeE, ite_true, ite_false, exists_and_right, DL.eq_int, DL.ne_int, DL.add_int, DL.sub_int', DL.cmp_int, wM_mul, wM_fdiv, wM_mod, wM_pow, wM_shl, wM_shr, tyD_str, truD_bl, ex1, ex2, exists_eq', exists_eq, Option.bind_some])
    refine ⟨size_le (by decide), ?_⟩
    refine (next_spec s2.app (by decide) (by decide)).imp ?_
    rintro _ M3 ⟨r, rfl, r0, r1, s3, g3⟩
    have e3 := g3.get (l := M2.length) get_new (by have := s2.lt; simp; omega)
    have ix : ∃ most : Int, 0 < most ∧ most ≤ 12 ∧ opIx (.ref M2.length) (.int (if decide (r = 0) = true then 1 else 0)) M3 = some (.int most, M3) := by
      by_cases q : r = 0
      · exact ⟨12, by decide, by decide, by rw [decide_eq_true q, if_pos rfl]; exact ix_ref e3 atI_1⟩
      · exact ⟨4, by decide, by decide, by rw [decide_eq_false q, if_neg Bool.false_ne_true]; exact ix_ref e3 atI_0⟩
    obtain ⟨most, m0, m1, ix⟩ := ix
    try (simp (config := { maxSteps := 1000000 }) only [wS_seq, wS_nx, wS_expr, wS_ret, wS_retN, wS_asg, wS_par2, wS_par3, wS_sub, wS_if, wS_for, wS_brk, wS_cont, wS_pass, after_nx, after_rt, after_bk, after_ct, wE_bind, wE_pure, wE_mem, wE_var, wE_call, wE_bin, wE_un, wE_nil, wE_cons, wE_tup, wE_lst, wE_cb, wE_lenSet, wE_meth, wE_tOfE, wE_tTru, wE_tAnd, wE_tOr, wE_tNot, wE_tYes, wE_if, wE_and, wE_or, wE_not, wE_oNo, wE_oSome, wE_sl, wE_iOf, wE_iSeq, gN_f, gT_f, gsNil_f, gsCons_f, wM_some, wM_newL, wM_if, List.getElem?_cons_zero, List.getElem?_cons_succ, List.set_cons_zero, List.set_cons_succ, List.map_cons, List.map_nil, List.cons_append, List.nil_append, Nat.reduceSub, List.replicate_succ, List.replicate_zero, List.length_cons, List.length_nil, Nat.reduceAdd, Option.some.injEq, exists_eq_left', exists_eq_left, D.bl.injEq, D.int.injEq, List.cons.injEq, and_true, true_and, exists_and_left, reduceCtorEq, false_and, and_false, exists_false, exists_const, if_true, if_false, Bool.false_eq_true, wipeE, ite_true, ite_false, exists_and_right, DL.eq_int, DL.ne_int, DL.add_int, DL.sub_int', DL.cmp_int, wM_mul, wM_fdiv, wM_mod, wM_pow, wM_shl, wM_shr, tyD_str, truD_bl, ex1, ex2, exists_eq', exists_eq, Option.bind_some, int_bl, ix])
    refine (framed_spec s3 m0 m1 (by decide) (by decide)).imp ?_
    rintro _ M4 ⟨bed, rfl, hf, s4, g4⟩
    have hb := hf.wb m1
    try (simp (config := { maxSteps := 1000000 }) only [wS_seq, wS_nx, wS_expr, wS_ret, wS_retN, wS_asg, wS_par2, wS_par3, wS_sub, wS_if, wS_for, wS_brk, wS_cont, wS_pass, after_nx, after_rt, after_bk, after_ct, wE_bind, wE_pure, wE_mem, wE_var, wE_call, wE_bin, wE_un, wE_nil, wE_cons, wE_tup, wE_lst, wE_cb, wE_lenSet, wE_meth, wE_tOfE, wE_tTru, wE_tAnd, wE_tOr, wE_tNot, wE_tYes, wE_if, wE_and, wE_or, wE_not, wE_oNo, wE_oSome, wE_sl, wE_iOf, wE_iSeq, gN_f, gT_f, gsNil_f, gsCons_f, wM_some, wM_newL, wM_if, List.getElem?_cons_zero, List.getElem?_cons_succ, List.set_cons_zero, List.set_cons_succ, List.map_cons, List.map_nil, List.cons_append, List.nil_append, Nat.reduceSub, List.replicate_succ, List.replicate_zero, List.length_cons, List.length_nil, Nat.reduceAdd, Option.some.injEq, exists_eq_left', exists_eq_left, D.bl.injEq, D.int.injEq, List.cons.injEq, and_true, true_and, exists_and_left, reduceCtorEq, false_and, and_false, exists_false, exists_const, if_true, if_false, Bool.false_eq_true, wipeE, ite_true, ite_false, exists_and_right, DL.eq_int, DL.ne_int, DL.add_int, DL.sub_int', DL.cmp_int, wM_mul, wM_fdiv, wM_mod, wM_pow, wM_shl, wM_shr, tyD_str, truD_bl, ex1, ex2, exists_eq', exists_eq, Option.bind_some, rng1_ok (show -(2 ^ 62) ≤ (10 : Int) ∧ (10 : Int) < 2 ^ 62 by omega)])
    refine wp_for0 (fun i ρ M' => (∃ a c d e, ρ = [some S, some (.ref s), a, some bed.d, c, d, e]) ∧ St s o M') ⟨⟨_, _, _, _, rfl⟩, s4⟩ ?_ ?_
    · rintro i x ρ M5 hi ⟨⟨a, c, d, e, rfl⟩, s5⟩
      refine ⟨rfl, _, rfl, ?_⟩
      have hne : 0 < bed.sd.length := by
        have h0 : ((0 : Int), (0 : Int)) ∈ frameL bed.w bed.h := frame_mem.mpr ⟨0, 0, by have := hf.w; omega, by have := hf.h; omega, rfl, rfl⟩
        rw [← show bed.sd.map plc = frameL bed.w bed.h from hf.sd] at h0
        have := List.length_pos_of_mem h0
        rw [List.length_map] at this
        exact this
      refine wS_cut (R := fun r ρ M' => r = .nx ∧ ∃ ot : Bed, (∃ a c e, ρ = [some S, some (.ref s), a, some bed.d, c, some ot.d, e]) ∧ WB 1 ot ∧ St s o M') ?_ ?_
      · try (simp (config := { maxSteps := 1000000 }) only [wS_seq, wS_nx, wS_expr, wS_ret, wS_retN, wS_asg, wS_par2, wS_par3, wS_sub, wS_if, wS_for, wS_brk, wS_cont, wS_pass, after_nx, after_rt, after_bk, after_ct, wE_bind, wE_pure, wE_mem, wE_var, wE_call, wE_bin, wE_un, wE_nil, wE_cons, wE_tup, wE_lst, wE_cb, wE_lenSet, wE_meth, wE_tOfE, wE_tTru, wE_tAnd, wE_tOr, wE_tNot, wE_tYes, wE_if, wE_and, wE_or, wE_not, wE_oNo, wE_oSome, wE_sl, wE_iOf, wE_iSeq, gN_f, gT_f, gsNil_f, gsCons_f, wM_some, wM_newL, wM_if, List.getElem?_cons_zero, List.getElem?_cons_succ, List.set_cons_zero, List.set_cons_succ, List.map_cons, List.map_nil, List.cons_append, List.nil_append, Nat.reduceSub, List.replicate_succ, List.replicate_zero, List.length_cons, List.length_nil, Nat.reduceAdd, Option.some.injEq, exists_eq_left', exists_eq_left, D.bl.injEq, D.int.injEq, List.cons.injEq, and_true, true_and, exists_and_left, reduceCtorEq, false_and, and_false, exists_false, exists_const, if_true, if_false, Bool.false_eq_true, wipeE, ite_true, ite_false, exists_and_right, DL.eq_int, DL.ne_int, DL.add_int, DL.sub_int', DL.cmp_int, wM_mul, wM_fdiv, wM_mod, wM_pow, wM_shl, wM_shr, tyD_str, truD_bl, ex1, ex2, exists_eq', exists_eq, Option.bind_some])
        refine (otherwise_spec s5 hb (by decide) hne).imp ?_
        rintro _ M6 ⟨ot, rfl, ho, s6, g6⟩
        exact ⟨ot, rfl, ho, s6⟩
      rintro _ ρ M6 ⟨rfl, ot, ⟨a, c, e, rfl⟩, ho, s6⟩
      refine wS_cut (R := fun r ρ M' => r = .nx ∧ ∃ ot : Bed, (∃ a c e, ρ = [some S, some (.ref s), a, some bed.d, c, some ot.d, e]) ∧ WB 2 ot ∧ St s o M') ?_ ?_
      · try (simp (config := { maxSteps := 1000000 }) only [wS_seq, wS_nx, wS_expr, wS_ret, wS_retN, wS_asg, wS_par2, wS_par3, wS_sub, wS_if, wS_for, wS_brk, wS_cont, wS_pass, after_nx, after_rt, after_bk, after_ct, wE_bind, wE_pure, wE_mem, wE_var, wE_call, wE_bin, wE_un, wE_nil, wE_cons, wE_tup, wE_lst, wE_cb, wE_lenSet, wE_meth, wE_tOfE, wE_tTru, wE_tAnd, wE_tOr, wE_tNot, wE_tYes, wE_if, wE_and, wE_or, wE_not, wE_oNo, wE_oSome, wE_sl, wE_iOf, wE_iSeq, gN_f, gT_f, gsNil_f, gsCons_f, wM_some, wM_newL, wM_if, List.getElem?_cons_zero, List.getElem?_cons_succ, List.set_cons_zero, List.set_cons_succ, List.map_cons, List.map_nil, List.cons_append, List.nil_append, Nat.reduceSub, List.replicate_succ, List.replicate_zero, List.length_cons, List.length_nil, Nat.reduceAdd, Option.some.injEq, exists_eq_left', exists_eq_left, D.bl.injEq, D.int.injEq, List.cons.injEq, and_true, true_and, exists_and_left, reduceCtorEq, false_and, and_false, exists_false, exists_const, if_true, if_false, Bool.false_eq_true, wipeE, ite_true, ite_false, exists_and_right, DL.eq_int, DL.ne_int, DL.add_int, DL.sub_int', DL.cmp_int, wM_mul, wM_fdiv, wM_mod, wM_pow, wM_shl, wM_shr, tyD_str, truD_bl, ex1, ex2, exists_eq', exists_eq, Option.bind_some])
        refine (next_spec s6 (by decide) (by decide)).imp ?_
        rintro _ M7 ⟨r, rfl, r0, r1, s7, g7⟩
        by_cases q : r = 0
        · have e1 : opIx ot.d (.int 2) M7 = some (.tup (ot.sd.map sdD), M7) := ix_tup' atI_2
          have e2 : opNe (.tup (ot.sd.map sdD)) (.tup []) M7 = some (.bl (!decide (D.tup (ot.sd.map sdD) = .tup [])), M7) := ne_pln (sds_pln (n := 38) ot.sd) rfl
          try (simp (config := { maxSteps := 1000000 }) only [wS_seq, wS_nx, wS_expr, wS_ret, wS_retN, wS_asg, wS_par2, wS_par3, wS_sub, wS_if, wS_for, wS_brk, wS_cont, wS_pass, after_nx, after_rt, after_bk, after_ct, wE_bind, wE_pure, wE_mem, wE_var, wE_call, wE_bin, wE_un, wE_nil, wE_cons, wE_tup, wE_lst, wE_cb, wE_lenSet, wE_meth, wE_tOfE, wE_tTru, wE_tAnd, wE_tOr, wE_tNot, wE_tYes, wE_if, wE_and, wE_or, wE_not, wE_oNo, wE_oSome, wE_sl, wE_iOf, wE_iSeq, gN_f, gT_f, gsNil_f, gsCons_f, wM_some, wM_newL, wM_if, List.getElem?_cons_zero, List.getElem?_cons_succ, List.set_cons_zero, List.set_cons_succ, List.map_cons, List.map_nil, List.cons_append, List.nil_append, Nat.reduceSub, List.replicate_succ, List.replicate_zero, List.length_cons, List.length_nil, Nat.reduceAdd, Option.some.injEq, exists_eq_left', exists_eq_left, D.bl.injEq, D.int.injEq, List.cons.injEq, and_true, true_and, exists_and_left, reduceCtorEq, false_and, and_false, exists_false, exists_const, if_true, if_false, Bool.false_eq_true, wipeE, ite_true, ite_false, exists_and_right, DL.eq_int, DL.ne_int, DL.add_int, DL.sub_int', DL.cmp_int, wM_mul, wM_fdiv, wM_mod, wM_pow, wM_shl, wM_shr, tyD_str, truD_bl, ex1, ex2, exists_eq', exists_eq, Option.bind_some, q, decide_true, e1, e2])
          by_cases q2 : ot.sd = []
          · have q3 : D.tup (ot.sd.map sdD) = .tup [] := by rw [q2]; rfl
            try (simp (config := { maxSteps := 1000000 }) only [wS_seq, wS_nx, wS_expr, wS_ret, wS_retN, wS_asg, wS_par2, wS_par3, wS_sub, wS_if, wS_for, wS_brk, wS_cont, wS_pass, after_nx, after_rt, after_bk, after_ct, wE_bind, wE_pure, wE_mem, wE_var, wE_call, wE_bin, wE_un, wE_nil, wE_cons, wE_tup, wE_lst, wE_cb, wE_lenSet, wE_meth, wE_tOfE, wE_tTru, wE_tAnd, wE_tOr, wE_tNot, wE_tYes, wE_if, wE_and, wE_or, wE_not, wE_oNo, wE_oSome, wE_sl, wE_iOf, wE_iSeq, gN_f, gT_f, gsNil_f, gsCons_f, wM_some, wM_newL, wM_if, List.getElem?_cons_zero, List.getElem?_cons_succ, List.set_cons_zero, List.set_cons_succ, List.map_cons, List.map_nil, List.cons_append, List.nil_append, Nat.reduceSub, List.replicate_succ, List.replicate_zero, List.length_cons, List.length_nil, Nat.reduceAdd, Option.some.injEq, exists_eq_left', exists_eq_left, D.bl.injEq, D.int.injEq, List.cons.injEq, and_true, true_and, exists_and_left, reduceCtorEq, false_and, and_false, exists_false, exists_const, if_true, if_false, Bool.false_eq_true, wipeE, ite_true, ite_false, exists_and_right, DL.eq_int, DL.ne_int, DL.add_int, DL.sub_int', DL.cmp_int, wM_mul, wM_fdiv, wM_mod, wM_pow, wM_shl, wM_shr, tyD_str, truD_bl, ex1, ex2, exists_eq', exists_eq, Option.bind_some, q3, decide_true, Bool.not_true])
            exact ⟨size_le (by decide), ot, rfl, ho.mono, s7⟩
          · have q3 : ¬ D.tup (ot.sd.map sdD) = .tup [] := fun z => by
              injection z with z
              exact q2 (List.map_eq_nil_iff.mp z)
            try (simp (config := { maxSteps := 1000000 }) only [wS_seq, wS_nx, wS_expr, wS_ret, wS_retN, wS_asg, wS_par2, wS_par3, wS_sub, wS_if, wS_for, wS_brk, wS_cont, wS_pass, after_nx, after_rt, after_bk, after_ct, wE_bind, wE_pure, wE_mem, wE_var, wE_call, wE_bin, wE_un, wE_nil, wE_cons, wE_tup, wE_lst, wE_cb, wE_lenSet, wE_meth, wE_tOfE, wE_tTru, wE_tAnd, wE_tOr, wE_tNot, wE_tYes, wE_if, wE_and, wE_or, wE_not, wE_oNo, wE_oSome, wE_sl, wE_iOf, wE_iSeq, gN_f, gT_f, gsNil_f, gsCons_f, wM_some, wM_newL, wM_if, List.getElem?_cons_zero, List.getElem?_cons_succ, List.set_cons_zero, List.set_cons_succ, List.map_cons, List.map_nil, List.cons_append, List.nil_append, Nat.reduceSub, List.replicate_succ, List.replicate_zero, List.length_cons, List.length_nil, Nat.reduceAdd, Option.some.injEq, exists_eq_left', exists_eq_left, D.bl.injEq, D.int.injEq, List.cons.injEq, and_true, true_and, exists_and_left, reduceCtorEq, false_and, and_false, exists_false, exists_const, if_true, if_false, Bool.false_eq_true, wipeE, ite_true, ite_false, exists_and_right, DL.eq_int, DL.ne_int, DL.add_int, DL.sub_int', DL.cmp_int, wM_mul, wM_fdiv, wM_mod, wM_pow, wM_shl, wM_shr, tyD_str, truD_bl, ex1, ex2, exists_eq', exists_eq, Option.bind_some, q3, decide_false, Bool.not_false])
            refine ⟨size_le (by decide), ?_⟩
            refine (otherwise_spec s7 ho (by decide) (List.length_pos_iff.mpr q2)).imp ?_
            rintro _ M8 ⟨ot2, rfl, ho2, s8, g8⟩
            exact ⟨ot2, rfl, ho2, s8⟩
        · try (simp (config := { maxSteps := 1000000 }) only [wS_seq, wS_nx, wS_expr, wS_ret, wS_retN, wS_asg, wS_par2, wS_par3, wS_sub, wS_if, wS_for, wS_brk, wS_cont, wS_pass, after_nx, after_rt, after_bk, after_ct, wE_bind, wE_pure, wE_mem, wE_var, wE_call, wE_bin, wE_un, wE_nil, wE_cons, wE_tup, wE_lst, wE_cb, wE_lenSet, wE_meth, wE_tOfE, wE_tTru, wE_tAnd, wE_tOr, wE_tNot, wE_tYes, wE_if, wE_and, wE_or, wE_not, wE_oNo, wE_oSome, wE_sl, wE_iOf, wE_iSeq, gN_f, gT_f, gsNil_f, gsCons_f, wM_some, wM_newL, wM_if, List.getElem?_cons_zero, List.getElem?_cons_succ, List.set_cons_zero, List.set_cons_succ, List.map_cons, List.map_nil, List.cons_append, List.nil_append, Nat.reduceSub, List.replicate_succ, List.replicate_zero, List.length_cons, List.length_nil, Nat.reduceAdd, Option.some.injEq, exists_eq_left', exists_eq_left, D.bl.injEq, D.int.injEq, List.cons.injEq, and_true, true_and, exists_and_left, reduceCtorEq, false_and, and_false, exists_false, exists_const, if_true, if_false, Bool.false_eq_true, wipeE, ite_true, ite_false, exists_and_right, DL.eq_int, DL.ne_int, DL.add_int, DL.sub_int', DL.cmp_int, wM_mul, wM_fdiv, wM_mod, wM_pow, wM_shl, wM_shr, tyD_str, truD_bl, ex1, ex2, exists_eq', exists_eq, Option.bind_some, q, decide_false])
          exact ⟨ot, rfl, ho.mono, s7⟩
      rintro _ ρ M7 ⟨rfl, ot2, ⟨a, c, e, rfl⟩, ho2, s7⟩
      try (simp (config := { maxSteps := 1000000 }) only [wS_seq, wS_nx, wS_expr, wS_ret, wS_retN, wS_asg, wS_par2, wS_par3, wS_sub, wS_if, wS_for, wS_brk, wS_cont, wS_pass, after_nx, after_rt, after_bk, after_ct, wE_bind, wE_pure, wE_mem, wE_var, wE_call, wE_bin, wE_un, wE_nil, wE_cons, wE_tup, wE_lst, wE_cb, wE_lenSet, wE_meth, wE_tOfE, wE_tTru, wE_tAnd, wE_tOr, wE_tNot, wE_tYes, wE_if, wE_and, wE_or, wE_not, wE_oNo, wE_oSome, wE_sl, wE_iOf, wE_iSeq, gN_f, gT_f, gsNil_f, gsCons_f, wM_some, wM_newL, wM_if, List.getElem?_cons_zero, List.getElem?_cons_succ, List.set_cons_zero, List.set_cons_succ, List.map_cons, List.map_nil, List.cons_append, List.nil_append, Nat.reduceSub, List.replicate_succ, List.replicate_zero, List.length_cons, List.length_nil, Nat.reduceAdd, Option.some.injEq, exists_eq_left', exists_eq_left, D.bl.injEq, D.int.injEq, List.cons.injEq, and_true, true_and, exists_and_left, reduceCtorEq, false_and, and_false, exists_false, exists_const, if_true, if_false, Bool.false_eq_true, wipeE, ite_true, ite_false, exists_and_right, DL.eq_int, DL.ne_int, DL.add_int, DL.sub_int', DL.cmp_int, wM_mul, wM_fdiv, wM_mod, wM_pow, wM_shl, wM_shr, tyD_str, truD_bl, ex1, ex2, exists_eq', exists_eq, Option.bind_some])
      refine (is_framed_spec ho2 (by decide)).imp ?_
      rintro _ M8 ⟨rfl, g8⟩
      have s8 := s7.go g8 (by simp) (by simp)
      try (simp (config := { maxSteps := 1000000 }) only [wS_seq, wS_nx, wS_expr, wS_ret, wS_retN, wS_asg, wS_par2, wS_par3, wS_sub, wS_if, wS_for, wS_brk, wS_cont, wS_pass, after_nx, after_rt, after_bk, after_ct, wE_bind, wE_pure, wE_mem, wE_var, wE_call, wE_bin, wE_un, wE_nil, wE_cons, wE_tup, wE_lst, wE_cb, wE_lenSet, wE_meth, wE_tOfE, wE_tTru, wE_tAnd, wE_tOr, wE_tNot, wE_tYes, wE_if, wE_and, wE_or, wE_not, wE_oNo, wE_oSome, wE_sl, wE_iOf, wE_iSeq, gN_f, gT_f, gsNil_f, gsCons_f, wM_some, wM_newL, wM_if, List.getElem?_cons_zero, List.getElem?_cons_succ, List.set_cons_zero, List.set_cons_succ, List.map_cons, List.map_nil, List.cons_append, List.nil_append, Nat.reduceSub, List.replicate_succ, List.replicate_zero, List.length_cons, List.length_nil, Nat.reduceAdd, Option.some.injEq, exists_eq_left', exists_eq_left, D.bl.injEq, D.int.injEq, List.cons.injEq, and_true, true_and, exists_and_left, reduceCtorEq, false_and, and_false, exists_false, exists_const, if_true, if_false, Bool.false_eq_true, wipeE, ite_true, ite_false, exists_and_right, DL.eq_int, DL.ne_int, DL.add_int, DL.sub_int', DL.cmp_int, wM_mul, wM_fdiv, wM_mod, wM_pow, wM_shl, wM_shr, tyD_str, truD_bl, ex1, ex2, exists_eq', exists_eq, Option.bind_some])
      refine (is_framed_spec hb (by decide)).imp ?_
      rintro _ M9 ⟨rfl, g9⟩
      have s9 := s8.go g9 (by simp) (by simp)
      rw [hf.yes]
      try (simp (config := { maxSteps := 1000000 }) only [wS_seq, wS_nx, wS_expr, wS_ret, wS_retN, wS_asg, wS_par2, wS_par3, wS_sub, wS_if, wS_for, wS_brk, wS_cont, wS_pass, after_nx, after_rt, after_bk, after_ct, wE_bind, wE_pure, wE_mem, wE_var, wE_call, wE_bin, wE_un, wE_nil, wE_cons, wE_tup, wE_lst, wE_cb, wE_lenSet, wE_meth, wE_tOfE, wE_tTru, wE_tAnd, wE_tOr, wE_tNot, wE_tYes, wE_if, wE_and, wE_or, wE_not, wE_oNo, wE_oSome, wE_sl, wE_iOf, wE_iSeq, gN_f, gT_f, gsNil_f, gsCons_f, wM_some, wM_newL, wM_if, List.getElem?_cons_zero, List.getElem?_cons_succ, List.set_cons_zero, List.set_cons_succ, List.map_cons, List.map_nil, List.cons_append, List.nil_append, Nat.reduceSub, List.replicate_succ, List.replicate_zero, List.length_cons, List.length_nil, Nat.reduceAdd, Option.some.injEq, exists_eq_left', exists_eq_left, D.bl.injEq, D.int.injEq, List.cons.injEq, and_true, true_and, exists_and_left, reduceCtorEq, false_and, and_false, exists_false, exists_const, if_true, if_false, Bool.false_eq_true, wipeE, ite_true, ite_false, exists_and_right, DL.eq_int, DL.ne_int, DL.add_int, DL.sub_int', DL.cmp_int, wM_mul, wM_fdiv, wM_mod, wM_pow, wM_shl, wM_shr, tyD_str, truD_bl, ex1, ex2, exists_eq', exists_eq, Option.bind_some, isB, decide_true, Bool.not_true, isi_bool])
      refine (look_spec ho2 (by decide)).imp ?_
      rintro _ M10 ⟨rfl, g10⟩
      have s10 := s9.go g10 (by simp) (by simp)
      try (simp (config := { maxSteps := 1000000 }) only [wS_seq, wS_nx, wS_expr, wS_ret, wS_retN, wS_asg, wS_par2, wS_par3, wS_sub, wS_if, wS_for, wS_brk, wS_cont, wS_pass, after_nx, after_rt, after_bk, after_ct, wE_bind, wE_pure, wE_mem, wE_var, wE_call, wE_bin, wE_un, wE_nil, wE_cons, wE_tup, wE_lst, wE_cb, wE_lenSet, wE_meth, wE_tOfE, wE_tTru, wE_tAnd, wE_tOr, wE_tNot, wE_tYes, wE_if, wE_and, wE_or, wE_not, wE_oNo, wE_oSome, wE_sl, wE_iOf, wE_iSeq, gN_f, gT_f, gsNil_f, gsCons_f, wM_some, wM_newL, wM_if, List.getElem?_cons_zero, List.getElem?_cons_succ, List.set_cons_zero, List.set_cons_succ, List.map_cons, List.map_nil, List.cons_append, List.nil_append, Nat.reduceSub, List.replicate_succ, List.replicate_zero, List.length_cons, List.length_nil, Nat.reduceAdd, Option.some.injEq, exists_eq_left', exists_eq_left, D.bl.injEq, D.int.injEq, List.cons.injEq, and_true, true_and, exists_and_left, reduceCtorEq, false_and, and_false, exists_false, exists_const, if_true, if_false, Bool.false_eq_true, wipeE, ite_true, ite_false, exists_and_right, DL.eq_int, DL.ne_int, DL.add_int, DL.sub_int', DL.cmp_int, wM_mul, wM_fdiv, wM_mod, wM_pow, wM_shl, wM_shr, tyD_str, truD_bl, ex1, ex2, exists_eq', exists_eq, Option.bind_some, ne_bl, bne_self_eq_false])
      exact s10
    · rintro ρ M5 ⟨⟨a, c, d, e, rfl⟩, s5⟩
      refine ⟨rfl, ?_⟩
      have e0 : ∀ M, opIx bed.d (.int 0) M = some (bed.ho, M) := fun M => ix_tup' atI_0
      have e1 : ∀ M, opIx bed.d (.int 1) M = some (bed.fl, M) := fun M => ix_tup' atI_1
      try (simp (config := { maxSteps := 1000000 }) only [wS_seq, wS_nx, wS_expr, wS_ret, wS_retN, wS_asg, wS_par2, wS_par3, wS_sub, wS_if, wS_for, wS_brk, wS_cont, wS_pass, after_nx, after_rt, after_bk, after_ct, wE_bind, wE_pure, wE_mem, wE_var, wE_call, wE_bin, wE_un, wE_nil, wE_cons, wE_tup, wE_lst, wE_cb, wE_lenSet, wE_meth, wE_tOfE, wE_tTru, wE_tAnd, wE_tOr, wE_tNot, wE_tYes, wE_if, wE_and, wE_or, wE_not, wE_oNo, wE_oSome, wE_sl, wE_iOf, wE_iSeq, gN_f, gT_f, gsNil_f, gsCons_f, wM_some, wM_newL, wM_if, List.getElem?_cons_zero, List.getElem?_cons_succ, List.set_cons_zero, List.set_cons_succ, List.map_cons, List.map_nil, List.cons_append, List.nil_append, Nat.reduceSub, List.replicate_succ, List.replicate_zero, List.length_cons, List.length_nil, Nat.reduceAdd, Option.some.injEq, exists_eq_left', exists_eq_left, D.bl.injEq, D.int.injEq, List.cons.injEq, and_true, true_and, exists_and_left, reduceCtorEq, false_and, and_false, exists_false, exists_const, if_true, if_false, Bool.false_eq_true, wipeE, ite_true, ite_false, exists_and_right, DL.eq_int, DL.ne_int, DL.add_int, DL.sub_int', DL.cmp_int, wM_mul, wM_fdiv, wM_mod, wM_pow, wM_shl, wM_shr, tyD_str, truD_bl, ex1, ex2, exists_eq', exists_eq, Option.bind_some, e0, e1])
      refine ⟨size_le (by decide), size_le (by decide), ?_⟩
      have hb0 : WB 0 { bed with sd := [] } := ⟨hb.st, hb.so, hb.ks, hb.ko, hb.w, hb.h, by simp, by simp, by simp⟩
      refine (is_framed_spec (b := { bed with sd := [] }) hb0 (by decide)).imp ?_
      rintro _ M6 ⟨rfl, g6⟩
      rw [hf.no]
      try (simp (config := { maxSteps := 1000000 }) only [wS_seq, wS_nx, wS_expr, wS_ret, wS_retN, wS_asg, wS_par2, wS_par3, wS_sub, wS_if, wS_for, wS_brk, wS_cont, wS_pass, after_nx, after_rt, after_bk, after_ct, wE_bind, wE_pure, wE_mem, wE_var, wE_call, wE_bin, wE_un, wE_nil, wE_cons, wE_tup, wE_lst, wE_cb, wE_lenSet, wE_meth, wE_tOfE, wE_tTru, wE_tAnd, wE_tOr, wE_tNot, wE_tYes, wE_if, wE_and, wE_or, wE_not, wE_oNo, wE_oSome, wE_sl, wE_iOf, wE_iSeq, gN_f, gT_f, gsNil_f, gsCons_f, wM_some, wM_newL, wM_if, List.getElem?_cons_zero, List.getElem?_cons_succ, List.set_cons_zero, List.set_cons_succ, List.map_cons, List.map_nil, List.cons_append, List.nil_append, Nat.reduceSub, List.replicate_succ, List.replicate_zero, List.length_cons, List.length_nil, Nat.reduceAdd, Option.some.injEq, exists_eq_left', exists_eq_left, D.bl.injEq, D.int.injEq, List.cons.injEq, and_true, true_and, exists_and_left, reduceCtorEq, false_and, and_false, exists_false, exists_const, if_true, if_false, Bool.false_eq_true, wipeE, ite_true, ite_false, exists_and_right, DL.eq_int, DL.ne_int, DL.add_int, DL.sub_int', DL.cmp_int, wM_mul, wM_fdiv, wM_mod, wM_pow, wM_shl, wM_shr, tyD_str, truD_bl, ex1, ex2, exists_eq', exists_eq, Option.bind_some, isB, decide_true, Bool.not_true])
      exact s5.go g6 (by simp) (by simp)
  · rintro ρ M2 ⟨⟨a, b, c, d, e, rfl⟩, s2⟩
    refine ⟨rfl, ?_⟩
    try (simp (config := { maxSteps := 1000000 }) only [wS_seq, wS_nx, wS_expr, wS_ret, wS_retN, wS_asg, wS_par2, wS_par3, wS_sub, wS_if, wS_for, wS_brk, wS_cont, wS_pass, after_nx, after_rt, after_bk, after_ct, wE_bind, wE_pure, wE_mem, wE_var, wE_call, wE_bin, wE_un, wE_nil, wE_cons, wE_tup, wE_lst, wE_cb, wE_lenSet, wE_meth, wE_tOfE, wE_tTru, wE_tAnd, wE_tOr, wE_tNot, wE_tYes, wE_if, wE_and, wE_or, wE_not, wE_oNo, wE_oSome, wE_sl, wE_iOf, wE_iSeq, gN_f, gT_f, gsNil_f, gsCons_f, wM_some, wM_newL, wM_if, List.getElem?_cons_zero, List.getElem?_cons_succ, List.set_cons_zero, List.set_cons_succ, List.map_cons, List.map_nil, List.cons_append, List.nil_append, Nat.reduceSub, List.replicate_succ, List.replicate_zero, List.length_cons, List.length_nil, Nat.reduceAdd, Option.some.injEq, exists_eq_left', exists_eq_left, D.bl.injEq, D.int.injEq, List.cons.injEq, and_true, true_and, exists_and_left, reduceCtorEq, false_and, and_false, exists_false, exists_const, if_true, if_false, Bool.false_eq_true, wipeE, ite_true, ite_false, exists_and_right, DL.eq_int, DL.ne_int, DL.add_int, DL.sub_int', DL.cmp_int, wM_mul, wM_fdiv, wM_mod, wM_pow, wM_shl, wM_shr, tyD_str, truD_bl, ex1, ex2, exists_eq', exists_eq, Option.bind_some])
theorem pure_law : ∀ ns : List Int, ns.length ≤ 63 → ∃ M', fn0 (fnOf 7 1 m_law) [.fls (ns.map D.int)] [] = some (.ok (.bl true), M') := fun ns h => wF_run (law_spec h) fun _ _ q => q
end G

namespace G
open PySem PySem.Spec PyProof.Rows L2 DL
theorem all_mk {P : Program} {w : World} {K : PySem.W.Frag} {h : Heap} {mg : Str → Option Value} {fa : Addr} (X : K.In h) (G : h.Ns mainGlobals mg) (hfa : mg "law" = some (.ref fa))
    {f0 f1 f2 f3 f4 f5 f6 f7 f8 f9 f10 : Addr} {od0 an0 od1 an1 od2 an2 od3 an3 od4 an4 od5 an5 od6 an6 od7 an7 od8 an8 od9 an9 od10 an10 : Option Addr} {sl0 sl1 sl2 sl3 sl4 sl5 sl6 sl7 sl8 sl9 sl10 : Array (Option Value)} {oc0 kV0 dc0 pm0 cd0 ct0 oc1 kV1 dc1 pm1 cd1 ct1 oc2 kV2 dc2 pm2 cd2 ct2 oc3 kV3 dc3 pm3 cd3 ct3 oc4 kV4 dc4 pm4 cd4 ct4 oc5 kV5 dc5 pm5 cd5 ct5 oc6 kV6 dc6 pm6 cd6 ct6 oc7 kV7 dc7 pm7 cd7 ct7 oc8 kV8 dc8 pm8 cd8 ct8 oc9 kV9 dc9 pm9 cd9 ct9 oc10 kV10 dc10 pm10 cd10 ct10 : Value} {tk_FRAMED_ENOUGH : Tok}
    (a0 : PySem.W.nsIn K mainGlobals "frame_of" = some (some (.ref f0))) (l0 : K.lookup f0 = some ⟨oc0, od0, .func (PySem.W.fnOf "frame_of" "frame_of" (defArgs s_frame_of) (defBody s_frame_of) (defScope s_frame_of) .none kV0 dc0 pm0 an0 cd0 ct0), sl0⟩) (c0 : PySem.W.codeIn K cd0 "frame_of" = true) (k0 : PySem.W.keepIn K (.ref f0) = true)
    (a1 : PySem.W.nsIn K mainGlobals "is_framed" = some (some (.ref f1))) (l1 : K.lookup f1 = some ⟨oc1, od1, .func (PySem.W.fnOf "is_framed" "is_framed" (defArgs s_is_framed) (defBody s_is_framed) (defScope s_is_framed) .none kV1 dc1 pm1 an1 cd1 ct1), sl1⟩) (c1 : PySem.W.codeIn K cd1 "is_framed" = true) (k1 : PySem.W.keepIn K (.ref f1) = true)
    (a2 : PySem.W.nsIn K mainGlobals "_law_start" = some (some (.ref f2))) (l2 : K.lookup f2 = some ⟨oc2, od2, .func (PySem.W.fnOf "_law_start" "_law_start" (defArgs s_law_start) (defBody s_law_start) (defScope s_law_start) .none kV2 dc2 pm2 an2 cd2 ct2), sl2⟩) (c2 : PySem.W.codeIn K cd2 "_law_start" = true) (k2 : PySem.W.keepIn K (.ref f2) = true)
    (a3 : PySem.W.nsIn K mainGlobals "_law_next" = some (some (.ref f3))) (l3 : K.lookup f3 = some ⟨oc3, od3, .func (PySem.W.fnOf "_law_next" "_law_next" (defArgs s_law_next) (defBody s_law_next) (defScope s_law_next) .none kV3 dc3 pm3 an3 cd3 ct3), sl3⟩) (c3 : PySem.W.codeIn K cd3 "_law_next" = true) (k3 : PySem.W.keepIn K (.ref f3) = true)
    (a4 : PySem.W.nsIn K mainGlobals "_law_names" = some (some (.ref f4))) (l4 : K.lookup f4 = some ⟨oc4, od4, .func (PySem.W.fnOf "_law_names" "_law_names" (defArgs s_law_names) (defBody s_law_names) (defScope s_law_names) .none kV4 dc4 pm4 an4 cd4 ct4), sl4⟩) (c4 : PySem.W.codeIn K cd4 "_law_names" = true) (k4 : PySem.W.keepIn K (.ref f4) = true)
    (a5 : PySem.W.nsIn K mainGlobals "_law_framed" = some (some (.ref f5))) (l5 : K.lookup f5 = some ⟨oc5, od5, .func (PySem.W.fnOf "_law_framed" "_law_framed" (defArgs s_law_framed) (defBody s_law_framed) (defScope s_law_framed) .none kV5 dc5 pm5 an5 cd5 ct5), sl5⟩) (c5 : PySem.W.codeIn K cd5 "_law_framed" = true) (k5 : PySem.W.keepIn K (.ref f5) = true)
    (a6 : PySem.W.nsIn K mainGlobals "_law_look" = some (some (.ref f6))) (l6 : K.lookup f6 = some ⟨oc6, od6, .func (PySem.W.fnOf "_law_look" "_law_look" (defArgs s_law_look) (defBody s_law_look) (defScope s_law_look) .none kV6 dc6 pm6 an6 cd6 ct6), sl6⟩) (c6 : PySem.W.codeIn K cd6 "_law_look" = true) (k6 : PySem.W.keepIn K (.ref f6) = true)
    (a7 : PySem.W.nsIn K mainGlobals "_law_with" = some (some (.ref f7))) (l7 : K.lookup f7 = some ⟨oc7, od7, .func (PySem.W.fnOf "_law_with" "_law_with" (defArgs s_law_with) (defBody s_law_with) (defScope s_law_with) .none kV7 dc7 pm7 an7 cd7 ct7), sl7⟩) (c7 : PySem.W.codeIn K cd7 "_law_with" = true) (k7 : PySem.W.keepIn K (.ref f7) = true)
    (a8 : PySem.W.nsIn K mainGlobals "_law_house_otherwise" = some (some (.ref f8))) (l8 : K.lookup f8 = some ⟨oc8, od8, .func (PySem.W.fnOf "_law_house_otherwise" "_law_house_otherwise" (defArgs s_law_house_otherwise) (defBody s_law_house_otherwise) (defScope s_law_house_otherwise) .none kV8 dc8 pm8 an8 cd8 ct8), sl8⟩) (c8 : PySem.W.codeIn K cd8 "_law_house_otherwise" = true) (k8 : PySem.W.keepIn K (.ref f8) = true)
    (a9 : PySem.W.nsIn K mainGlobals "_law_otherwise" = some (some (.ref f9))) (l9 : K.lookup f9 = some ⟨oc9, od9, .func (PySem.W.fnOf "_law_otherwise" "_law_otherwise" (defArgs s_law_otherwise) (defBody s_law_otherwise) (defScope s_law_otherwise) .none kV9 dc9 pm9 an9 cd9 ct9), sl9⟩) (c9 : PySem.W.codeIn K cd9 "_law_otherwise" = true) (k9 : PySem.W.keepIn K (.ref f9) = true)
    (a10 : PySem.W.nsIn K mainGlobals "law" = some (some (.ref f10))) (l10 : K.lookup f10 = some ⟨oc10, od10, .func (PySem.W.fnOf "law" "law" (defArgs s_law) (defBody s_law) (defScope s_law) .none kV10 dc10 pm10 an10 cd10 ct10), sl10⟩) (c10 : PySem.W.codeIn K cd10 "law" = true) (k10 : PySem.W.keepIn K (.ref f10) = true)
    (y_abs : PySem.W.nsIn K mainGlobals "abs" = some none)
    (y_any : PySem.W.nsIn K mainGlobals "any" = some none)
    (y_bool : PySem.W.nsIn K mainGlobals "bool" = some none)
    (y_enumerate : PySem.W.nsIn K mainGlobals "enumerate" = some none)
    (y_int : PySem.W.nsIn K mainGlobals "int" = some none)
    (y_isinstance : PySem.W.nsIn K mainGlobals "isinstance" = some none)
    (y_len : PySem.W.nsIn K mainGlobals "len" = some none)
    (y_list : PySem.W.nsIn K mainGlobals "list" = some none)
    (y_min : PySem.W.nsIn K mainGlobals "min" = some none)
    (y_range : PySem.W.nsIn K mainGlobals "range" = some none)
    (y_set : PySem.W.nsIn K mainGlobals "set" = some none)
    (y_sorted : PySem.W.nsIn K mainGlobals "sorted" = some none)
    (y_tuple : PySem.W.nsIn K mainGlobals "tuple" = some none)
    (x_FRAMED_ENOUGH : PySem.W.nsIn K mainGlobals "FRAMED_ENOUGH" = some (some (.int 2 tk_FRAMED_ENOUGH)))
    : ∃ fd : FuncData, (∀ (s : Shared) (u : Value), BindsTo s fd ⟨[u], []⟩ [("_law_script", u)]) ∧ ∀ base : Heap, K.In base → base.Ns mainGlobals mg → FnOk P w K mg base CX0 4 fa fd ["_law_script"] (spL K) := by
  have z_abs : mg "abs" = none := PySem.W.mg_none_of X G y_abs
  have z_any : mg "any" = none := PySem.W.mg_none_of X G y_any
  have z_bool : mg "bool" = none := PySem.W.mg_none_of X G y_bool
  have z_enumerate : mg "enumerate" = none := PySem.W.mg_none_of X G y_enumerate
  have z_int : mg "int" = none := PySem.W.mg_none_of X G y_int
  have z_isinstance : mg "isinstance" = none := PySem.W.mg_none_of X G y_isinstance
  have z_len : mg "len" = none := PySem.W.mg_none_of X G y_len
  have z_list : mg "list" = none := PySem.W.mg_none_of X G y_list
  have z_min : mg "min" = none := PySem.W.mg_none_of X G y_min
  have z_range : mg "range" = none := PySem.W.mg_none_of X G y_range
  have z_set : mg "set" = none := PySem.W.mg_none_of X G y_set
  have z_sorted : mg "sorted" = none := PySem.W.mg_none_of X G y_sorted
  have z_tuple : mg "tuple" = none := PySem.W.mg_none_of X G y_tuple
  have g_FRAMED_ENOUGH : GlobK K mg "FRAMED_ENOUGH" (.int 2) := GlobK.int X G x_FRAMED_ENOUGH
  have A_frame_of : DefAt K mg "frame_of" "frame_of" s_frame_of ["wide", "high"] := DefAt.mk' X G (fun _ _ _ _ _ _ us hl => match us, hl with | [_, _], _ => rfl) a0 l0 c0 k0
  have A_is_framed : DefAt K mg "is_framed" "is_framed" s_is_framed ["bed"] := DefAt.mk' X G (fun _ _ _ _ _ _ us hl => match us, hl with | [_], _ => rfl) a1 l1 c1 k1
  have A_law_start : DefAt K mg "_law_start" "_law_start" s_law_start ["_law_script"] := DefAt.mk' X G (fun _ _ _ _ _ _ us hl => match us, hl with | [_], _ => rfl) a2 l2 c2 k2
  have A_law_next : DefAt K mg "_law_next" "_law_next" s_law_next ["_law_state", "_law_many"] := DefAt.mk' X G (fun _ _ _ _ _ _ us hl => match us, hl with | [_, _], _ => rfl) a3 l3 c3 k3
  have A_law_names : DefAt K mg "_law_names" "_law_names" s_law_names ["_law_state", "_law_many"] := DefAt.mk' X G (fun _ _ _ _ _ _ us hl => match us, hl with | [_, _], _ => rfl) a4 l4 c4 k4
  have A_law_framed : DefAt K mg "_law_framed" "_law_framed" s_law_framed ["_law_state", "_law_most", "_law_kinds_most"] := DefAt.mk' X G (fun _ _ _ _ _ _ us hl => match us, hl with | [_, _, _], _ => rfl) a5 l5 c5 k5
  have A_law_look : DefAt K mg "_law_look" "_law_look" s_law_look ["_law_bed"] := DefAt.mk' X G (fun _ _ _ _ _ _ us hl => match us, hl with | [_], _ => rfl) a6 l6 c6 k6
  have A_law_with : DefAt K mg "_law_with" "_law_with" s_law_with ["_law_things", "_law_at", "_law_thing"] := DefAt.mk' X G (fun _ _ _ _ _ _ us hl => match us, hl with | [_, _, _], _ => rfl) a7 l7 c7 k7
  have A_law_house_otherwise : DefAt K mg "_law_house_otherwise" "_law_house_otherwise" s_law_house_otherwise ["_law_state", "_law_house"] := DefAt.mk' X G (fun _ _ _ _ _ _ us hl => match us, hl with | [_, _], _ => rfl) a8 l8 c8 k8
  have A_law_otherwise : DefAt K mg "_law_otherwise" "_law_otherwise" s_law_otherwise ["_law_state", "_law_bed"] := DefAt.mk' X G (fun _ _ _ _ _ _ us hl => match us, hl with | [_, _], _ => rfl) a9 l9 c9 k9
  refine law_fin (st := s_law) X G hfa sc_law rfl (fun _ _ _ _ _ _ _ _ => .of_eq rfl) (fun base hK hG => ?_) pure_law a10 l10 c10 k10
  have c_frame_of := d_frame_of (P := P) (w := w) (base := base) A_frame_of z_range
  have c_is_framed := d_is_framed (P := P) (w := w) (base := base) A_is_framed c_frame_of z_any z_len z_set g_FRAMED_ENOUGH
  have c_law_start := d_law_start (P := P) (w := w) (base := base) A_law_start z_abs z_enumerate
  have c_law_next := d_law_next (P := P) (w := w) (base := base) A_law_next 
  have c_law_names := d_law_names (P := P) (w := w) (base := base) A_law_names c_law_next z_range z_sorted
  have c_law_framed := d_law_framed (P := P) (w := w) (base := base) A_law_framed c_law_next c_law_names z_len z_min z_range z_tuple
  have c_law_look := d_law_look (P := P) (w := w) (base := base) A_law_look z_enumerate z_range
  have c_law_with := d_law_with (P := P) (w := w) (base := base) A_law_with 
  have c_law_house_otherwise := d_law_house_otherwise (P := P) (w := w) (base := base) A_law_house_otherwise c_law_next c_law_with z_len z_tuple
  have c_law_otherwise := d_law_otherwise (P := P) (w := w) (base := base) A_law_otherwise c_law_next c_law_house_otherwise c_law_with z_len z_list z_min z_range z_sorted z_tuple
  exact b_law c_law_start c_law_next c_law_framed c_law_otherwise c_is_framed c_law_look z_bool z_int z_isinstance z_range
end G
open PySem PySem.W PyProof.Rows
set_option maxRecDepth 100000 in
set_option maxHeartbeats 0 in
theorem PySem.Challenge.cw_stickytiles_k64_what_is_framed_holds : PySem.Challenge.rw_stickytiles_k64_what_is_framed.Holds := by
  w_on; o_law; k_head; (case hw => w_witness2)
  k_fill
  refine L2.walk_ofK (l := PySem.Challenge.rw_stickytiles_k64_what_is_framed) (n := 63) (k := 4) (x := "_law_script") (CX := L2.CX0) (sp := DL.spL) rfl (by decide) rfl ⟨rfl, by decide, by decide⟩ (fun w h Y => PySem.W.kIn_of Y) ?F ?S (fun _ _ _ _ h => h)
  case S => exact fun K H a ns hl hO hS => ⟨a, ns, rfl, DL.StL.of_only hO hS, hl, fun _ => rfl⟩
  case F =>
    intro w mg fa h KX GX hmg
    refine' G.all_mk KX GX hmg ?a0 ?l0 ?c0 ?k0 ?a1 ?l1 ?c1 ?k1 ?a2 ?l2 ?c2 ?k2 ?a3 ?l3 ?c3 ?k3 ?a4 ?l4 ?c4 ?k4 ?a5 ?l5 ?c5 ?k5 ?a6 ?l6 ?c6 ?k6 ?a7 ?l7 ?c7 ?k7 ?a8 ?l8 ?c8 ?k8 ?a9 ?l9 ?c9 ?k9 ?a10 ?l10 ?c10 ?k10 ?y_abs ?y_any ?y_bool ?y_enumerate ?y_int ?y_isinstance ?y_len ?y_list ?y_min ?y_range ?y_set ?y_sorted ?y_tuple ?x_FRAMED_ENOUGH
    (case a0 => k_is); (case l0 => k_is); (case c0 => k_is); (case k0 => k_is); (case a1 => k_is); (case l1 => k_is); (case c1 => k_is); (case k1 => k_is); (case a2 => k_is); (case l2 => k_is); (case c2 => k_is); (case k2 => k_is); (case a3 => k_is); (case l3 => k_is); (case c3 => k_is); (case k3 => k_is); (case a4 => k_is); (case l4 => k_is); (case c4 => k_is); (case k4 => k_is); (case a5 => k_is); (case l5 => k_is); (case c5 => k_is); (case k5 => k_is); (case a6 => k_is); (case l6 => k_is); (case c6 => k_is); (case k6 => k_is); (case a7 => k_is); (case l7 => k_is); (case c7 => k_is); (case k7 => k_is); (case a8 => k_is); (case l8 => k_is); (case c8 => k_is); (case k8 => k_is); (case a9 => k_is); (case l9 => k_is); (case c9 => k_is); (case k9 => k_is); (case a10 => k_is); (case l10 => k_is); (case c10 => k_is); (case k10 => k_is); (case y_abs => k_is); (case y_any => k_is); (case y_bool => k_is); (case y_enumerate => k_is); (case y_int => k_is); (case y_isinstance => k_is); (case y_len => k_is); (case y_list => k_is); (case y_min => k_is); (case y_range => k_is); (case y_set => k_is); (case y_sorted => k_is); (case y_tuple => k_is); (case x_FRAMED_ENOUGH => k_is)

