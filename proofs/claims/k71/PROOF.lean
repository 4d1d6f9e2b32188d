import PyProof.Rows.All
import Wide.All
import OpenK.AllK
import Wide.FinOn
import HandS.ForMost
import HandS.ForExc
import HandS.IsInst
import HandS.Small
import HandS.Flow
import HandS.Style
import HandS.Zip
import HandS.TupAny
import HandS.TupLe
import HandS.Conv
import HandS.Wide
import HandS.EndBits
import HandS.TryMany
import HandS.Deep
import HandS.More
import KE.KDictPairs
import HandS.ExcIs
import PySem.Challenge.RW_anyunits_k71_whole_weights
set_option Elab.async false
set_option linter.all false
set_option maxRecDepth 100000
set_option maxHeartbeats 4000000
set_option exponentiation.threshold 10000
/-! DL1: data by value, a logical heap, how they lie in the hand layer's heap; expressions, tests, statements as plain functions -/
namespace DL
open PySem PySem.Spec PyProof.Rows L2

/-- data: scalars, tuples by value, a reference into the logical heap -/
inductive D where
  | non | bl (b : Bool) | int (i : Int) | str (x : Str) | tup (ds : List D) | ref (i : Nat)
  /-- a tuple that an iterator has just given out, to be unpacked -/
  | raw (ds : List D)
/-- what stands in the logical heap: a list, a list that is read alone, a dict -/
inductive LO where
  | lst (ds : List D) | rls (ds : List D) | dic (kvs : List (Key × D))
def LO.isM : LO → Prop
  | .rls _ => False
  | _ => True
abbrev LH := List LO
/-- a list that nothing changes -/
def FzL (K : PySem.W.Frag) (H : Hp) (a : Addr) (xs : List V) : Prop := (∃ o, H a = some (.frz o (.lst xs))) ∨
    ∃ (o : Obj) (its : Array Value) (n : Nat), K.lookup a = some o ∧ o.cls = .type "list" ∧ o.dict = none ∧ o.data = .seq its n ∧ its.size ≤ sizeLine ∧ Vals xs its.toList
theorem FzL.sq {K : PySem.W.Frag} {H : Hp} {a : Addr} {xs : List V} (h : FzL K H a xs) : SqL K H a xs := by
  rcases h with h | h
  · exact .inl (.inr h)
  · exact .inr h
theorem FzL.of {K : PySem.W.Frag} {H : Hp} {a : Addr} {xs : List V} (h : SqL K H a xs) (n : H a = none ∨ ∃ o ys, H a = some (.frz o (.lst ys))) : FzL K H a xs := by
  rcases h with (h | h) | h
  · rcases n with n | ⟨o, ys, n⟩ <;> (rw [h] at n; cases n)
  · exact .inl h
  · exact .inr h
abbrev DSt := List (Option D)
/-- an exception: its class by name, its one field -/
structure XD where
  cls : Str
  arg : Option (Str × D)
inductive R (α : Type) where
  | ok (a : α) (h : LH) | exc (e : XD) (h : LH)
inductive SR where
  | nx (δ : DSt) (h : LH) | rt (d : D) (h : LH) | bk (δ : DSt) (h : LH) | ct (δ : DSt) (h : LH) | ex (e : XD) (δ : DSt) (h : LH)
abbrev EM := DSt → LH → Option (R D)
abbrev TM := DSt → LH → Option (R Bool)
abbrev AM := DSt → LH → Option (R (List D))
abbrev SM := DSt → LH → Option SR
abbrev FM := List D → LH → Option (R D)
abbrev GM := D → DSt → LH → Option (DSt × LH)

def bnd {α β : Type} (m : Option (R α)) (f : α → LH → Option (R β)) : Option (R β) :=
  match m with
  | none => none
  | some (.exc e h) => some (.exc e h)
  | some (.ok a h) => f a h
@[simp] theorem bnd_ok {α β : Type} (a : α) (h : LH) (f : α → LH → Option (R β)) : bnd (some (.ok a h)) f = f a h := rfl
@[simp] theorem bnd_exc {α β : Type} (e : XD) (h : LH) (f : α → LH → Option (R β)) : bnd (some (.exc e h) : Option (R α)) f = some (.exc e h) := rfl
@[simp] theorem bnd_none {α β : Type} (f : α → LH → Option (R β)) : bnd (none : Option (R α)) f = none := rfl

/-- a tuple that is known to have no dict of its own -/
def SqN (K : PySem.W.Frag) (H : Hp) (a : Addr) (xs : List V) : Prop := (∃ o, H a = some (.frz o (.tup xs)) ∧ o.dict = none) ∨
    ∃ (o : Obj) (its : Array Value) (n : Nat), K.lookup a = some o ∧ o.cls = .type "tuple" ∧ o.dict = none ∧ o.data = .seq its n ∧ its.size ≤ sizeLine ∧ Vals xs its.toList
theorem SqN.sq {K : PySem.W.Frag} {H : Hp} {a : Addr} {xs : List V} (h : SqN K H a xs) : SqT K H a xs := by
  rcases h with ⟨o, h, _⟩ | ⟨o, its, n, h1, h2, _, h4, h5, h6⟩
  · exact .inl (.inr ⟨o, h⟩)
  · exact .inr ⟨o, its, n, h1, h2, h4, h5, h6⟩
/-! ### how data lies in the heap -/
section
variable (K : PySem.W.Frag) (ρ : List Addr) (H : Hp)
mutual
def Rep : D → V → Prop
  | .non, v => v = .non
  | .bl b, v => v = .bl b
  | .int i, v => v = .int i
  | .str x, v => v = .str x
  | .tup ds, v => ∃ a vs, v = .ref a ∧ SqN K H a vs ∧ Reps ds vs
  | .raw ds, v => ∃ a vs, v = .ref a ∧ SqT K H a vs ∧ Reps ds vs
  | .ref i, v => ∃ a, v = .ref a ∧ ρ[i]? = some a
def Reps : List D → List V → Prop
  | [], vs => vs = []
  | d :: ds, vs => ∃ v r, vs = v :: r ∧ Rep d v ∧ Reps ds r
end
/-- a dict's pairs -/
def RepK : List (Key × D) → List (Key × V) → Prop
  | [], vs => vs = []
  | (k, d) :: ds, vs => ∃ v r, vs = (k, v) :: r ∧ Rep K ρ H d v ∧ RepK ds r
def ObR (a : Addr) : LO → Prop
  | .lst ds => ∃ vs, H a = some (.lst vs) ∧ Reps K ρ H ds vs
  | .rls ds => ∃ vs, FzL K H a vs ∧ Reps K ρ H ds vs
  | .dic kvs => ∃ vs, H a = some (.dK vs) ∧ RepK K ρ H kvs vs
structure LhOk (lh : LH) : Prop where
  len : ρ.length = lh.length
  inj : ∀ (i j : Nat) (a : Addr) (o u : LO), ρ[i]? = some a → ρ[j]? = some a → lh[i]? = some o → lh[j]? = some u → o.isM → u.isM → i = j
  at_ : ∀ (i : Nat) (a : Addr) (o : LO), ρ[i]? = some a → lh[i]? = some o → ObR K ρ H a o
def StR (δ : DSt) (σ : L2.St) : Prop := δ.length = σ.length ∧ ∀ (i : Nat) (d : D), δ[i]? = some (some d) → ∃ v, σ[i]? = some (some v) ∧ Rep K ρ H d v
end
/-- later: more references, all tuples as they were -/
structure Ext (K : PySem.W.Frag) (ρ ρ' : List Addr) (H H' : Hp) : Prop where
  pre : ∃ t, ρ' = ρ ++ t
  tup : ∀ a xs, SqN K H a xs → SqN K H' a xs
  tupT : ∀ a xs, SqT K H a xs → SqT K H' a xs

section
variable {K : PySem.W.Frag} {ρ ρ' ρ'' : List Addr} {H H' H'' : Hp}
theorem Ext.refl : Ext K ρ ρ H H := ⟨⟨[], by simp⟩, fun _ _ h => h, fun _ _ h => h⟩
theorem Ext.trans (a : Ext K ρ ρ' H H') (b : Ext K ρ' ρ'' H' H'') : Ext K ρ ρ'' H H'' := by
  obtain ⟨⟨t, rfl⟩, f, f2⟩ := a
  obtain ⟨⟨u, rfl⟩, g, g2⟩ := b
  exact ⟨⟨t ++ u, by rw [List.append_assoc]⟩, fun a xs h => g a xs (f a xs h), fun a xs h => g2 a xs (f2 a xs h)⟩
theorem Ext.get (a : Ext K ρ ρ' H H') {i : Nat} {x : Addr} (h : ρ[i]? = some x) : ρ'[i]? = some x := by
  obtain ⟨⟨t, rfl⟩, _, _⟩ := a
  have hl : i < ρ.length := (List.getElem?_eq_some_iff.mp h).1
  rw [List.getElem?_append_left hl]
  exact h
mutual
theorem Rep.mono (e : Ext K ρ ρ' H H') : ∀ (d : D) (v : V), Rep K ρ H d v → Rep K ρ' H' d v
  | .non, _, h => h
  | .bl _, _, h => h
  | .int _, _, h => h
  | .str _, _, h => h
  | .tup ds, v, h => by
    obtain ⟨a, vs, rfl, hs, hr⟩ := h
    exact ⟨a, vs, rfl, e.tup _ _ hs, Reps.mono e ds vs hr⟩
  | .raw ds, v, h => by
    obtain ⟨a, vs, rfl, hs, hr⟩ := h
    exact ⟨a, vs, rfl, e.tupT _ _ hs, Reps.mono e ds vs hr⟩
  | .ref i, v, h => by
    obtain ⟨a, rfl, ha⟩ := h
    exact ⟨a, rfl, e.get ha⟩
theorem Reps.mono (e : Ext K ρ ρ' H H') : ∀ (ds : List D) (vs : List V), Reps K ρ H ds vs → Reps K ρ' H' ds vs
  | [], _, h => h
  | d :: ds, vs, h => by
    obtain ⟨v, r, rfl, h1, h2⟩ := h
    exact ⟨v, r, rfl, Rep.mono e d v h1, Reps.mono e ds r h2⟩
end
theorem RepK.mono (e : Ext K ρ ρ' H H') : ∀ (ds : List (Key × D)) (vs : List (Key × V)), RepK K ρ H ds vs → RepK K ρ' H' ds vs
  | [], _, h => h
  | (k, d) :: ds, vs, h => by
    obtain ⟨v, r, rfl, h1, h2⟩ := h
    exact ⟨v, r, rfl, Rep.mono e d v h1, RepK.mono e ds r h2⟩
theorem StR.mono (e : Ext K ρ ρ' H H') {δ : DSt} {σ : L2.St} (h : StR K ρ H δ σ) : StR K ρ' H' δ σ :=
  ⟨h.1, fun i d hi => let ⟨v, h1, h2⟩ := h.2 i d hi; ⟨v, h1, Rep.mono e d v h2⟩⟩
theorem Reps.length : ∀ {ds : List D} {vs : List V}, Reps K ρ H ds vs → ds.length = vs.length
  | [], _, h => by cases h; rfl
  | d :: ds, vs, h => by
    obtain ⟨v, r, rfl, _, h2⟩ := h
    simp [Reps.length h2]
theorem Reps.get : ∀ {ds : List D} {vs : List V}, Reps K ρ H ds vs → ∀ {i : Nat} {d : D}, ds[i]? = some d → ∃ v, vs[i]? = some v ∧ Rep K ρ H d v
  | [], _, _, i, d, e => by simp at e
  | x :: ds, vs, h, i, d, e => by
    obtain ⟨v, r, rfl, h1, h2⟩ := h
    cases i with
    | zero => simp at e; subst e; exact ⟨v, rfl, h1⟩
    | succ i => exact Reps.get h2 (i := i) (by simpa using e)
theorem Reps.append : ∀ {ds es : List D} {vs ws : List V}, Reps K ρ H ds vs → Reps K ρ H es ws → Reps K ρ H (ds ++ es) (vs ++ ws)
  | [], _, _, _, h, g => by cases h; exact g
  | d :: ds, _, _, _, h, g => by
    obtain ⟨v, r, rfl, h1, h2⟩ := h
    exact ⟨v, _, rfl, h1, Reps.append h2 g⟩
theorem Reps.one {d : D} {v : V} (h : Rep K ρ H d v) : Reps K ρ H [d] [v] := ⟨v, [], rfl, h, rfl⟩
theorem Reps.take : ∀ {ds : List D} {vs : List V} (n : Nat), Reps K ρ H ds vs → Reps K ρ H (ds.take n) (vs.take n)
  | _, _, 0, _ => by simp [Reps]
  | [], _, n + 1, h => by cases h; simp [Reps]
  | d :: ds, _, n + 1, h => by
    obtain ⟨v, r, rfl, h1, h2⟩ := h
    exact ⟨v, _, rfl, h1, Reps.take n h2⟩
theorem Reps.drop : ∀ {ds : List D} {vs : List V} (n : Nat), Reps K ρ H ds vs → Reps K ρ H (ds.drop n) (vs.drop n)
  | _, _, 0, h => by simpa using h
  | [], _, n + 1, h => by cases h; simp [Reps]
  | d :: ds, _, n + 1, h => by
    obtain ⟨v, r, rfl, h1, h2⟩ := h
    simpa using Reps.drop n h2
theorem Reps.set : ∀ {ds : List D} {vs : List V} (i : Nat) {d : D} {v : V}, Reps K ρ H ds vs → Rep K ρ H d v → Reps K ρ H (ds.set i d) (vs.set i v)
  | [], _, _, _, _, h, _ => by cases h; simp [Reps]
  | x :: ds, _, i, d, v, h, g => by
    obtain ⟨w, r, rfl, h1, h2⟩ := h
    cases i with
    | zero => exact ⟨v, r, rfl, g, h2⟩
    | succ i => exact ⟨w, _, rfl, h1, Reps.set i h2 g⟩
theorem Reps.reverse : ∀ {ds : List D} {vs : List V}, Reps K ρ H ds vs → Reps K ρ H ds.reverse vs.reverse
  | [], _, h => by cases h; simp [Reps]
  | d :: ds, _, h => by
    obtain ⟨v, r, rfl, h1, h2⟩ := h
    rw [List.reverse_cons, List.reverse_cons]
    exact (Reps.reverse h2).append (Reps.one h1)
theorem RepK.length : ∀ {ds : List (Key × D)} {vs : List (Key × V)}, RepK K ρ H ds vs → ds.length = vs.length
  | [], _, h => by cases h; rfl
  | d :: ds, vs, h => by
    obtain ⟨v, r, rfl, _, h2⟩ := h
    simp [RepK.length h2]

/-! ### the heap grows by a new object, a list or dict is changed -/
theorem Rd.upd_new {a p : Addr} {u o : HO} (hp : H p = none) (h : Rd H a u) : Rd (upd H p o) a u := by
  rcases h with h | ⟨ob, h⟩
  · exact .inl (by rw [upd_ne (ne_of_none h hp)]; exact h)
  · exact .inr ⟨ob, by rw [upd_ne (ne_of_none h hp)]; exact h⟩
theorem SqT.upd_new {a p : Addr} {xs : List V} {o : HO} (hp : H p = none) (h : SqT K H a xs) : SqT K (upd H p o) a xs := by
  rcases h with h | h
  · exact .inl (Rd.upd_new hp h)
  · exact .inr h
theorem SqL.upd_new {a p : Addr} {xs : List V} {o : HO} (hp : H p = none) (h : SqL K H a xs) : SqL K (upd H p o) a xs := by
  rcases h with h | h
  · exact .inl (Rd.upd_new hp h)
  · exact .inr h
theorem SqT.upd_mut {a p : Addr} {xs : List V} {o : HO} (hp : Mut (H p)) (h : SqT K H a xs) : SqT K (upd H p o) a xs := by
  rcases h with (h | ⟨ob, h⟩) | h
  · have ne : a ≠ p := fun e => by subst e; rw [h] at hp; exact hp
    exact .inl (.inl (by rw [upd_ne ne]; exact h))
  · have ne : a ≠ p := fun e => by subst e; rw [h] at hp; exact hp
    exact .inl (.inr ⟨ob, by rw [upd_ne ne]; exact h⟩)
  · exact .inr h
theorem SqN.upd_new {a p : Addr} {xs : List V} {o : HO} (hp : H p = none) (h : SqN K H a xs) : SqN K (upd H p o) a xs := by
  rcases h with ⟨ob, h, d⟩ | h
  · exact .inl ⟨ob, by rw [upd_ne (ne_of_none h hp)]; exact h, d⟩
  · exact .inr h
theorem SqN.upd_mut {a p : Addr} {xs : List V} {o : HO} (hp : Mut (H p)) (h : SqN K H a xs) : SqN K (upd H p o) a xs := by
  rcases h with ⟨ob, h, d⟩ | h
  · have ne : a ≠ p := fun e => by subst e; rw [h] at hp; exact hp
    exact .inl ⟨ob, by rw [upd_ne ne]; exact h, d⟩
  · exact .inr h
theorem Ext.new {p : Addr} {o : HO} (hp : H p = none) : Ext K ρ ρ H (upd H p o) := ⟨⟨[], by simp⟩, fun _ _ h => SqN.upd_new hp h, fun _ _ h => SqT.upd_new hp h⟩
theorem Ext.newR {p : Addr} {o : HO} (hp : H p = none) : Ext K ρ (ρ ++ [p]) H (upd H p o) := ⟨⟨[p], rfl⟩, fun _ _ h => SqN.upd_new hp h, fun _ _ h => SqT.upd_new hp h⟩
theorem Ext.mut {p : Addr} {o : HO} (hp : Mut (H p)) : Ext K ρ ρ H (upd H p o) := ⟨⟨[], by simp⟩, fun _ _ h => SqN.upd_mut hp h, fun _ _ h => SqT.upd_mut hp h⟩

/-- an object, where what stood at a stands -/
theorem ObR.mono {a : Addr} {o : LO} (e : Ext K ρ ρ' H H') (hk : ∀ u, H a = some u → H' a = some u) (h : ObR K ρ H a o) : ObR K ρ' H' a o := by
  cases o with
  | lst ds =>
    obtain ⟨vs, e1, h1⟩ := h
    exact ⟨vs, hk _ e1, Reps.mono e _ _ h1⟩
  | rls ds =>
    obtain ⟨vs, e1, h1⟩ := h
    refine ⟨vs, ?_, Reps.mono e _ _ h1⟩
    rcases e1 with ⟨ob, z⟩ | z
    · exact .inl ⟨ob, hk _ z⟩
    · exact .inr z
  | dic kvs =>
    obtain ⟨vs, e1, h1⟩ := h
    exact ⟨vs, hk _ e1, RepK.mono e _ _ h1⟩

theorem LhOk.keep {lh : LH} (ok : LhOk K ρ H lh) (e : Ext K ρ ρ H H') (hk : ∀ a u, H a = some u → H' a = some u) : LhOk K ρ H' lh :=
  ⟨ok.len, ok.inj, fun i a o h1 h2 => (ok.at_ i a o h1 h2).mono e (hk a)⟩
/-- a new tracked object that the logical heap does not name -/
theorem LhOk.grow {lh : LH} (ok : LhOk K ρ H lh) {p : Addr} {o : HO} (hp : H p = none) : LhOk K ρ (upd H p o) lh :=
  ok.keep (Ext.new hp) fun a u h => by rw [upd_ne (ne_of_none h hp)]; exact h
theorem ObR.isSome {a : Addr} {o : LO} (h : ObR K ρ H a o) (m : o.isM) : Mut (H a) := by
  cases o with
  | lst ds => obtain ⟨vs, e, _⟩ := h; rw [e]; trivial
  | rls ds => exact m.elim
  | dic kvs => obtain ⟨vs, e, _⟩ := h; rw [e]; trivial
theorem notMutNone {H : Hp} {a : Addr} (h : H a = none) : ¬ Mut (H a) := by rw [h]; exact id
/-- an unchangeable one whatever becomes of p, which may be new or changeable -/
theorem ObR.other {a p : Addr} {o : LO} {ob : HO} (e : Ext K ρ ρ' H (upd H p ob)) (hp : H p = none ∨ Mut (H p)) (h : ObR K ρ H a o) (hne : o.isM → a ≠ p) : ObR K ρ' (upd H p ob) a o := by
  by_cases hap : a = p
  · cases o with
    | lst ds => exact absurd hap (hne trivial)
    | dic ds => exact absurd hap (hne trivial)
    | rls ds =>
      obtain ⟨vs, e1, h1⟩ := h
      rcases e1 with ⟨ob, z⟩ | z
      · subst hap
        rcases hp with q | q <;> rw [z] at q
        · cases q
        · exact q.elim
      · exact ⟨vs, .inr z, Reps.mono e _ _ h1⟩
  · exact h.mono e fun u q => by rw [upd_ne hap]; exact q
/-- .. that it names -/
theorem LhOk.push {lh : LH} {lo : LO} (ok : LhOk K ρ H lh) {p : Addr} {o : HO} (hp : H p = none) (new : ObR K (ρ ++ [p]) (upd H p o) p lo) : LhOk K (ρ ++ [p]) (upd H p o) (lh ++ [lo]) := by
  have old : ∀ (i : Nat) (a : Addr) (ob : LO), (ρ ++ [p])[i]? = some a → (lh ++ [lo])[i]? = some ob → (i < ρ.length ∧ ρ[i]? = some a ∧ lh[i]? = some ob) ∨ (i = ρ.length ∧ a = p ∧ ob = lo) := by
    intro i a ob h1 h2
    by_cases hi : i < ρ.length
    · rw [List.getElem?_append_left hi] at h1
      rw [List.getElem?_append_left (by rw [← ok.len]; exact hi)] at h2
      exact .inl ⟨hi, h1, h2⟩
    · have hl : i = ρ.length := by
        have := (List.getElem?_eq_some_iff.mp h1).1
        simp at this; omega
      subst hl
      refine .inr ⟨rfl, by simpa using h1.symm, ?_⟩
      rw [ok.len] at h2; simpa using h2.symm
  have ne : ∀ (i : Nat) (a : Addr) (ob : LO), ρ[i]? = some a → lh[i]? = some ob → ob.isM → a ≠ p := fun i a ob h1 h2 m e => by
    subst e
    exact notMutNone hp ((ok.at_ i a ob h1 h2).isSome m)
  refine ⟨by simp [ok.len], fun i j a o u hi hj h1 h2 m1 m2 => ?_, fun i a ob h1 h2 => ?_⟩
  · rcases old i a o hi h1 with ⟨_, a1, a2⟩ | ⟨a0, a1, a2⟩ <;> rcases old j a u hj h2 with ⟨_, b1, b2⟩ | ⟨b0, b1, b2⟩
    · exact ok.inj i j a o u a1 b1 a2 b2 m1 m2
    · exact absurd b1 (ne i a o a1 a2 m1)
    · exact absurd a1 (ne j a u b1 b2 m2)
    · exact a0.trans b0.symm
  · rcases old i a ob h1 h2 with ⟨_, a1, a2⟩ | ⟨a0, a1, a2⟩
    · exact (ok.at_ i a ob a1 a2).other (Ext.newR hp) (.inl hp) fun m => ne i a ob a1 a2 m
    · rw [a1, a2]; exact new
/-- the object of index j is changed -/
theorem LhOk.put {lh : LH} {lo lo0 : LO} {j : Nat} {p : Addr} (ok : LhOk K ρ H lh) {o : HO} (hj : ρ[j]? = some p) (h0 : lh[j]? = some lo0) (m0 : lo0.isM) (new : ObR K ρ (upd H p o) p lo) : LhOk K ρ (upd H p o) (lh.set j lo) := by
  have hp : Mut (H p) := (ok.at_ j p lo0 hj h0).isSome m0
  have hl : j < lh.length := (List.getElem?_eq_some_iff.mp h0).1
  have ne : ∀ (i : Nat) (a : Addr) (ob : LO), i ≠ j → ρ[i]? = some a → lh[i]? = some ob → ob.isM → a ≠ p := fun i a ob hij h1 h2 m e => by
    subst e
    exact hij (ok.inj i j a ob lo0 h1 hj h2 h0 m m0)
  have same : ∀ (i : Nat) (u : LO), (lh.set j lo)[i]? = some u → (i = j ∧ u = lo) ∨ (i ≠ j ∧ lh[i]? = some u) := fun i u h => by
    by_cases hi : i = j
    · subst hi
      rw [List.getElem?_set_self hl] at h
      cases h; exact .inl ⟨rfl, rfl⟩
    · rw [List.getElem?_set_ne (Ne.symm hi)] at h
      exact .inr ⟨hi, h⟩
  refine ⟨by simp [ok.len], fun i k a o u hi hk h1 h2 m1 m2 => ?_, fun i a ob h1 h2 => ?_⟩
  · rcases same i o h1 with ⟨a1, a2⟩ | ⟨a1, a2⟩ <;> rcases same k u h2 with ⟨b1, b2⟩ | ⟨b1, b2⟩
    · exact a1.trans b1.symm
    · subst a1
      rw [hj] at hi; cases hi
      exact absurd rfl (ne k p u b1 hk b2 m2)
    · subst b1
      rw [hj] at hk; cases hk
      exact absurd rfl (ne i p o a1 hi a2 m1)
    · exact ok.inj i k a o u hi hk a2 b2 m1 m2
  · rcases same i ob h2 with ⟨a1, a2⟩ | ⟨a1, a2⟩
    · subst a1; subst a2
      rw [hj] at h1; cases h1
      exact new
    · exact (ok.at_ i a ob h1 a2).other (Ext.mut hp) (.inr hp) fun m => ne i a ob a1 h1 a2 m
end
end DL

/-! DL2: what a plain function's result means for the hand layer; the judgements -/
namespace DL
open PySem PySem.Spec PyProof.Rows L2
/-- how an exception lies: its class, its own dict -/
def ExR (K : PySem.W.Frag) (mg : Str → Option Value) (ρ : List Addr) (H : Hp) (e : XD) (cls : Value) (dx : Option Addr) : Prop :=
  (∃ C, mg e.cls = some (.ref C) ∧ cls = .ref C) ∧ ∀ f d, e.arg = some (f, d) → ∃ dd v, dx = some dd ∧ H dd = some (.xd [(f, v)]) ∧ Rep K ρ H d v
section
variable (K : PySem.W.Frag) (mg : Str → Option Value) (W : WX) (σ : L2.St)
/-- what a result means, from references ρ and heap H on -/
def Fin {α : Type} (ρ : List Addr) (H : Hp) (r : Option (R α)) (P : α → LH → List Addr → Hp → Prop) : Prop :=
  match r with
  | none => False
  | some (.ok a lh) => ∀ ρ' H', Ext K ρ ρ' H H' → LhOk K ρ' H' lh → P a lh ρ' H'
  | some (.exc e lh) => ∀ ρ' H' cls dx, Ext K ρ ρ' H H' → LhOk K ρ' H' lh → ExR K mg ρ' H' e cls dx → W cls dx σ H'
end
section
variable {K : PySem.W.Frag} {mg : Str → Option Value} {W : WX} {σ : L2.St} {α β : Type} {ρ ρ' : List Addr} {H H' : Hp}
theorem Fin.mono {r : Option (R α)} {P : α → LH → List Addr → Hp → Prop} (h : Fin K mg W σ ρ H r P) (e : Ext K ρ ρ' H H') : Fin K mg W σ ρ' H' r P := by
  match r, h with
  | some (.ok a lh), h => exact fun ρ2 H2 e2 ok => h ρ2 H2 (e.trans e2) ok
  | some (.exc x lh), h => exact fun ρ2 H2 c d e2 ok q => h ρ2 H2 c d (e.trans e2) ok q
theorem Fin.imp {r : Option (R α)} {P P' : α → LH → List Addr → Hp → Prop} (h : Fin K mg W σ ρ H r P)
    (f : ∀ a lh ρ1 H1, Ext K ρ ρ1 H H1 → LhOk K ρ1 H1 lh → P a lh ρ1 H1 → P' a lh ρ1 H1) : Fin K mg W σ ρ H r P' := by
  match r, h with
  | some (.ok a lh), h => exact fun ρ2 H2 e2 ok => f a lh ρ2 H2 e2 ok (h ρ2 H2 e2 ok)
  | some (.exc x lh), h => exact h
theorem Fin.bnd {m : Option (R α)} {f : α → LH → Option (R β)} {P : β → LH → List Addr → Hp → Prop} (h : Fin K mg W σ ρ H (bnd m f) P) :
    Fin K mg W σ ρ H m (fun a lh ρ1 H1 => Fin K mg W σ ρ1 H1 (f a lh) P) := by
  match m, h with
  | some (.ok a lh), h => exact fun ρ2 H2 e2 ok => Fin.mono (show Fin K mg W σ ρ H (f a lh) P from h) e2
  | some (.exc x lh), h => exact h
end

/-! ### lifted readings -/
section
variable (K : PySem.W.Frag) (mg : Str → Option Value) (W : WX)
def liftE (m : EM) : TE := fun σ H Q => ∃ ρ δ lh, StR K ρ H δ σ ∧ LhOk K ρ H lh ∧ Fin K mg W σ ρ H (m δ lh) fun d _ ρ' H' => ∀ v, Rep K ρ' H' d v → Q v H'
def liftT (m : TM) : TT := fun σ H Q => ∃ ρ δ lh, StR K ρ H δ σ ∧ LhOk K ρ H lh ∧ Fin K mg W σ ρ H (m δ lh) fun b _ _ H' => Q b H'
def liftA (m : AM) : TA := fun σ H Q => ∃ ρ δ lh, StR K ρ H δ σ ∧ LhOk K ρ H lh ∧ Fin K mg W σ ρ H (m δ lh) fun ds _ ρ' H' => ∀ vs, Reps K ρ' H' ds vs → Q vs H'
def FinS (ρ : List Addr) (H : Hp) (De : Ends) (r : Option SR) : Prop :=
  match r with
  | none => False
  | some (.nx δ lh) => ∀ σ' ρ' H', Ext K ρ ρ' H H' → LhOk K ρ' H' lh → StR K ρ' H' δ σ' → De.nx σ' H'
  | some (.rt d lh) => ∀ v ρ' H', Ext K ρ ρ' H H' → LhOk K ρ' H' lh → Rep K ρ' H' d v → De.rt v H'
  | some (.bk δ lh) => ∀ σ' ρ' H', Ext K ρ ρ' H H' → LhOk K ρ' H' lh → StR K ρ' H' δ σ' → De.bk σ' H'
  | some (.ct δ lh) => ∀ σ' ρ' H', Ext K ρ ρ' H H' → LhOk K ρ' H' lh → StR K ρ' H' δ σ' → De.ct σ' H'
  | some (.ex e δ lh) => ∀ σ' ρ' H' cls dx, Ext K ρ ρ' H H' → LhOk K ρ' H' lh → StR K ρ' H' δ σ' → ExR K mg ρ' H' e cls dx → W cls dx σ' H'
def liftS (m : SM) : TS := fun De σ H => ∃ ρ δ lh, StR K ρ H δ σ ∧ LhOk K ρ H lh ∧ FinS K mg W ρ H De (m δ lh)
def liftG (g : GM) : TG := fun v σ H Q => ∃ ρ d δ lh, Rep K ρ H d v ∧ StR K ρ H δ σ ∧ LhOk K ρ H lh ∧ ∃ δ' lh', g d δ lh = some (δ', lh') ∧
  ∀ σ' ρ' H', Ext K ρ ρ' H H' → LhOk K ρ' H' lh' → StR K ρ' H' δ' σ' → Q σ' H'
/-- an operation on two values, on one, a call of a built-in with values -/
def rD (g : D → D → LH → Option (D × LH)) : R2 := fun x y H Q => ∃ ρ lh a b d lh', LhOk K ρ H lh ∧ Rep K ρ H a x ∧ Rep K ρ H b y ∧ g a b lh = some (d, lh') ∧
  ∀ v ρ' H', Ext K ρ ρ' H H' → LhOk K ρ' H' lh' → Rep K ρ' H' d v → Q v H'
def uD (g : D → LH → Option (D × LH)) : V → Hp → VK → Prop := fun x H Q => ∃ ρ lh a d lh', LhOk K ρ H lh ∧ Rep K ρ H a x ∧ g a lh = some (d, lh') ∧
  ∀ v ρ' H', Ext K ρ ρ' H H' → LhOk K ρ' H' lh' → Rep K ρ' H' d v → Q v H'
def cD (g : List D → LH → Option (D × LH)) : List V → Hp → VK → Prop := fun xs H Q => ∃ ρ lh ds d lh', LhOk K ρ H lh ∧ Reps K ρ H ds xs ∧ g ds lh = some (d, lh') ∧
  ∀ v ρ' H', Ext K ρ ρ' H H' → LhOk K ρ' H' lh' → Rep K ρ' H' d v → Q v H'
end
theorem FinS.mono {K : PySem.W.Frag} {mg : Str → Option Value} {W : WX} {ρ ρ' : List Addr} {H H' : Hp} {De : Ends} {r : Option SR} (h : FinS K mg W ρ H De r) (e : Ext K ρ ρ' H H') : FinS K mg W ρ' H' De r := by
  match r, h with
  | some (.nx δ lh), h => exact fun σ2 ρ2 H2 e2 ok st => h σ2 ρ2 H2 (e.trans e2) ok st
  | some (.rt d lh), h => exact fun σ2 ρ2 H2 e2 ok st => h σ2 ρ2 H2 (e.trans e2) ok st
  | some (.bk δ lh), h => exact fun σ2 ρ2 H2 e2 ok st => h σ2 ρ2 H2 (e.trans e2) ok st
  | some (.ct δ lh), h => exact fun σ2 ρ2 H2 e2 ok st => h σ2 ρ2 H2 (e.trans e2) ok st
  | some (.ex x δ lh), h => exact fun σ2 ρ2 H2 c d e2 ok st q => h σ2 ρ2 H2 c d (e.trans e2) ok st q
/-- a result of an expression, then a statement -/
def bndS {α : Type} (δ : DSt) (m : Option (R α)) (f : α → LH → Option SR) : Option SR :=
  match m with
  | none => none
  | some (.exc e h) => some (.ex e δ h)
  | some (.ok a h) => f a h
@[simp] theorem bndS_ok {α : Type} (δ : DSt) (a : α) (h : LH) (f : α → LH → Option SR) : bndS δ (some (.ok a h)) f = f a h := rfl
@[simp] theorem bndS_exc {α : Type} (δ : DSt) (e : XD) (h : LH) (f : α → LH → Option SR) : bndS δ (some (.exc e h) : Option (R α)) f = some (.ex e δ h) := rfl
@[simp] theorem bndS_none {α : Type} (δ : DSt) (f : α → LH → Option SR) : bndS δ (none : Option (R α)) f = none := rfl
theorem FinS.bnd {K : PySem.W.Frag} {mg : Str → Option Value} {W : WX} {σ : L2.St} {ρ : List Addr} {H : Hp} {De : Ends} {α : Type} {δ : DSt} {m : Option (R α)} {f : α → LH → Option SR} (st : StR K ρ H δ σ)
    (h : FinS K mg W ρ H De (bndS δ m f)) : Fin K mg W σ ρ H m (fun a lh ρ1 H1 => FinS K mg W ρ1 H1 De (f a lh)) := by
  match m, h with
  | some (.ok a lh), h => exact fun ρ2 H2 e2 ok => FinS.mono (show FinS K mg W ρ H De (f a lh) from h) e2
  | some (.exc x lh), h => exact fun ρ2 H2 c d e2 ok q => h σ ρ2 H2 c d e2 ok (st.mono e2) q

/-- what a context is asked for: its wish about exceptions; not in an except suite -/
structure Cd (X : Cx) (W : WX) : Prop where
  tk : Takes X W
  po : PassesOwn (model X.prog X.w) X.A X.env X.xe
  calm : X.calm = true
  nd : X.N.Nodup
section
variable {X : Cx} {W : WX}
theorem _root_.L2.PE.wk {e : Expr} {t t' : TE} (h : PE X e t) (k : ∀ σ H Q, t' σ H Q → t σ H Q) : PE X e t' := ⟨fun pins s σ H Q I q => h.run pins s σ H Q I (k σ H Q q)⟩
theorem _root_.L2.PT.wk {e : Expr} {t t' : TT} (h : PT X e t) (k : ∀ σ H Q, t' σ H Q → t σ H Q) : PT X e t' := ⟨fun pins s σ H Q I q => h.run pins s σ H Q I (k σ H Q q)⟩
theorem _root_.L2.PW.wk {e : Expr} {t t' : TT} (h : PW X e t) (k : ∀ σ H Q, t' σ H Q → t σ H Q) : PW X e t' := ⟨fun wh pins s σ H Q I q => h.run wh pins s σ H Q I (k σ H Q q)⟩
theorem _root_.L2.PA.wk {e : List Expr} {t t' : TA} (h : PA X e t) (k : ∀ σ H Q, t' σ H Q → t σ H Q) : PA X e t' := ⟨fun p pins s σ H Q I q => h.run p pins s σ H Q I (k σ H Q q)⟩
theorem _root_.L2.PS.wk {e : Stmt} {t t' : TS} (h : PS X e t) (k : ∀ De σ H, t' De σ H → t De σ H) : PS X e t' := ⟨fun pins s σ H De I q => h.run pins s σ H De I (k De σ H q)⟩
theorem _root_.L2.PSs.wk {e : List Stmt} {t t' : TS} (h : PSs X e t) (k : ∀ De σ H, t' De σ H → t De σ H) : PSs X e t' := ⟨fun pins s σ H De I q => h.run pins s σ H De I (k De σ H q)⟩
theorem _root_.L2.PG.wk {e : Expr} {t t' : TG} (h : PG X e t) (k : ∀ v σ H Q, t' v σ H Q → t v σ H Q) : PG X e t' := ⟨fun pins s σ H v u Q I r q => h.run pins s σ H v u Q I r (k v σ H Q q)⟩
abbrev IE (X : Cx) (W : WX) (e : Expr) (m : EM) : Prop := PE X e (liftE X.K X.mg W m)
abbrev IT (X : Cx) (W : WX) (e : Expr) (m : TM) : Prop := PT X e (liftT X.K X.mg W m)
abbrev IW (X : Cx) (W : WX) (e : Expr) (m : TM) : Prop := PW X e (liftT X.K X.mg W m)
abbrev IA (X : Cx) (W : WX) (e : List Expr) (m : AM) : Prop := PA X e (liftA X.K X.mg W m)
abbrev IS (X : Cx) (W : WX) (e : Stmt) (m : SM) : Prop := PS X e (liftS X.K X.mg W m)
abbrev ISs (X : Cx) (W : WX) (e : List Stmt) (m : SM) : Prop := PSs X e (liftS X.K X.mg W m)
abbrev IG (X : Cx) (e : Expr) (g : GM) : Prop := PG X e (liftG X.K g)

/-! ### constants, names -/
def eC (d : D) : EM := fun _ h => some (.ok d h)
def eV (i : Nat) : EM := fun δ h => match δ[i]? with | some (some d) => some (.ok d h) | _ => none
theorem i_int {i : Int} {j pos} : IE X W (.Constant (.int i) j pos) (eC (.int i)) := pe_int.wk fun σ H Q ⟨ρ, δ, lh, st, ok, h⟩ => h ρ H Ext.refl ok _ rfl
theorem i_bl {b : Bool} {j pos} : IE X W (.Constant (.bool b) j pos) (eC (.bl b)) := pe_bl.wk fun σ H Q ⟨ρ, δ, lh, st, ok, h⟩ => h ρ H Ext.refl ok _ rfl
theorem i_non {j pos} : IE X W (.Constant .none j pos) (eC .non) := pe_non.wk fun σ H Q ⟨ρ, δ, lh, st, ok, h⟩ => h ρ H Ext.refl ok _ rfl
theorem i_str {x : Str} {j pos} : IE X W (.Constant (.str x) j pos) (eC (.str x)) := pe_str.wk fun σ H Q ⟨ρ, δ, lh, st, ok, h⟩ => h ρ H Ext.refl ok _ rfl
theorem i_v (i : Nat) {x : Str} {pos : Pos} (hN : X.N[i]? = some x := by rfl) (hv : Vis X.env.scope x := by first | exact Or.inl rfl | exact Or.inr (Or.inl rfl) | exact Or.inr (Or.inr rfl)) (hd : (x == ("__debug__" : Str)) = false := by decide)
    (hcd : (x == ("__classdict__" : Str)) = false := by decide) : IE X W (.Name x pos) (eV i) := (pe_var hN hv hd hcd).wk fun σ H Q ⟨ρ, δ, lh, st, ok, h⟩ => by
  unfold eV at h
  split at h
  · rename_i d e
    obtain ⟨v, e1, r⟩ := st.2 i d e
    exact ⟨v, e1, h ρ H Ext.refl ok v r⟩
  · exact h.elim
/-- a constant of the module: a scalar, or a tuple of scalars that stands written -/
theorem i_glob {x : Str} {u : Value} {v : V} {d : D} {pos : Pos} (hg : Gl X x) (hm : X.mg x = some u) (r : RelV v u) (hd : ∀ ρ H, Rep X.K ρ H d v) (hdb : (x == ("__debug__" : Str)) = false := by decide) : IE X W (.Name x pos) (eC d) :=
  (pe_glob hg hm r hdb).wk fun σ H Q ⟨ρ, δ, lh, st, ok, h⟩ => h ρ H Ext.refl ok _ (hd ρ H)

/-! ### arguments, displays -/
def aNil : AM := fun _ h => some (.ok [] h)
def aCons (m : EM) (r : AM) : AM := fun δ h => bnd (m δ h) fun d h1 => bnd (r δ h1) fun ds h2 => some (.ok (d :: ds) h2)
theorem ia_nil : IA X W [] aNil := pa_nil.wk fun σ H Q ⟨ρ, δ, lh, st, ok, h⟩ => h ρ H Ext.refl ok _ rfl
theorem ia_cons {e : Expr} {es : List Expr} {m : EM} {r : AM} (ha : IE X W e m) (hr : IA X W es r) (hs : starEach (e :: es) X.env = (false, eval e X.env) :: starEach es X.env := by rfl) : IA X W (e :: es) (aCons m r) :=
  (pa_cons ha hr hs).wk fun σ H Q ⟨ρ, δ, lh, st, ok, h⟩ => ⟨ρ, δ, lh, st, ok, (Fin.bnd h).imp fun d lh1 ρ1 H1 e1 ok1 h1 v r1 =>
    ⟨ρ1, δ, lh1, st.mono e1, ok1, (Fin.bnd h1).imp fun ds lh2 ρ2 H2 e2 ok2 h2 vs r2 => h2 ρ2 H2 Ext.refl ok2 _ ⟨v, vs, rfl, Rep.mono e2 _ _ r1, r2⟩⟩⟩
def eTup (a : AM) : EM := fun δ h => bnd (a δ h) fun ds h1 => if ds.length ≤ sizeLine then some (.ok (.tup ds) h1) else none
def eLst (a : AM) : EM := fun δ h => bnd (a δ h) fun ds h1 => if ds.length ≤ sizeLine then some (.ok (.ref h1.length) (h1 ++ [.lst ds])) else none
/-- a tuple's display: the new object is known -/
theorem pe_tupN {es : List Expr} {x1 pos} {t : TA} (h : PA X es t) : PE X (.Tuple es x1 pos) (fun σ H Q => t σ H fun xs H1 => xs.length ≤ sizeLine ∧ ∀ p o, o.dict = none → H1 p = none → Q (.ref p) (upd H1 p (.frz o (.tup xs)))) := by
  refine ⟨fun pins s σ H Q I hq => ?_⟩
  refine wpAny_Tuple_spliced (thn (h.run pos pins s σ H _ I hq) fun us s1 ⟨xs, H1, I1, r, z, q⟩ => ⟨by rw [← r.length]; exact z, ?_⟩)
  have hf : H1 s1.heap.objs.size = none := I1.hok.fresh (Nat.le_refl _)
  refine ⟨.ref s1.heap.objs.size, upd H1 s1.heap.objs.size (.frz _ (.tup xs)), I1.laid (t' := s1.toks) (fun b u e => Heap.get?_push_of_some _ e) (Nat.le_refl _) ⟨Heap.get?_push_size _ rfl, z, us, r, ⟨_, Heap.get?_push_size _ rfl, rfl, _, rfl⟩⟩, rfl, q _ _ rfl hf⟩
theorem i_tup {es : List Expr} {x1 pos} {a : AM} (ha : IA X W es a) : IE X W (.Tuple es x1 pos) (eTup a) :=
  (pe_tupN ha).wk fun σ H Q ⟨ρ, δ, lh, st, ok, h⟩ => ⟨ρ, δ, lh, st, ok, (Fin.bnd h).imp fun ds lh1 ρ1 H1 e1 ok1 h1 vs r1 => by
    split at h1
    · rename_i hz
      refine ⟨by rw [← r1.length]; exact hz, fun p o ho hp => h1 ρ1 _ (Ext.new hp) (ok1.grow hp) _ ⟨p, vs, rfl, .inl ⟨o, upd_same, ho⟩, Reps.mono (Ext.new hp) _ _ r1⟩⟩
    · exact h1.elim⟩
theorem i_lst {es : List Expr} {pos} {a : AM} (ha : IA X W es a) : IE X W (.List es pos) (eLst a) :=
  (pe_lst ha).wk fun σ H Q ⟨ρ, δ, lh, st, ok, h⟩ => ⟨ρ, δ, lh, st, ok, (Fin.bnd h).imp fun ds lh1 ρ1 H1 e1 ok1 h1 vs r1 => by
    split at h1
    · rename_i hz
      refine ⟨by rw [← r1.length]; exact hz, fun p hp => h1 (ρ1 ++ [p]) _ (Ext.newR hp) (ok1.push hp ⟨vs, upd_same, Reps.mono (Ext.newR hp) _ _ r1⟩) _ ⟨p, rfl, ?_⟩⟩
      rw [← ok1.len]
      simp
    · exact h1.elim⟩

/-! ### operations by values -/
def opt {α : Type} (r : Option (α × LH)) : Option (R α) := match r with | none => none | some (a, h) => some (.ok a h)
@[simp] theorem opt_some {α : Type} (a : α) (h : LH) : opt (some (a, h)) = some (.ok a h) := rfl
@[simp] theorem opt_none {α : Type} : opt (none : Option (α × LH)) = none := rfl
def eBin (g : D → D → LH → Option (D × LH)) (a b : EM) : EM := fun δ h => bnd (a δ h) fun x h1 => bnd (b δ h1) fun y h2 => opt (g x y h2)
def eUn (g : D → LH → Option (D × LH)) (a : EM) : EM := fun δ h => bnd (a δ h) fun x h1 => opt (g x h1)
def eCall (g : List D → LH → Option (D × LH)) (a : AM) : EM := fun δ h => bnd (a δ h) fun x h1 => opt (g x h1)
theorem lift_bin {g : D → D → LH → Option (D × LH)} {a b : EM} {K : PySem.W.Frag} {mg : Str → Option Value} {σ : L2.St} {H : Hp} {Q : VK} (h : liftE K mg W (eBin g a b) σ H Q) : tOp (rD K g) (liftE K mg W a) (liftE K mg W b) σ H Q := by
  obtain ⟨ρ, δ, lh, st, ok, h⟩ := h
  refine ⟨ρ, δ, lh, st, ok, (Fin.bnd h).imp fun d lh1 ρ1 H1 e1 ok1 h1 v r1 => ⟨ρ1, δ, lh1, st.mono e1, ok1, (Fin.bnd h1).imp fun d2 lh2 ρ2 H2 e2 ok2 h2 v2 r2 => ?_⟩⟩
  cases q : g d d2 lh2 with
  | none => rw [q] at h2; exact h2.elim
  | some z =>
    obtain ⟨d3, lh3⟩ := z
    rw [q] at h2
    exact ⟨ρ2, lh2, d, d2, d3, lh3, ok2, Rep.mono e2 _ _ r1, r2, q, fun v ρ' H' e o r => h2 ρ' H' e o v r⟩
theorem i_op {op : Operator} {g : D → D → LH → Option (D × LH)} {a b : Expr} {ma mb : EM} {pos : Pos} (ho : OpR X (binaryOp op) (rD X.K g)) (ha : IE X W a ma) (hb : IE X W b mb) : IE X W (.BinOp a op b pos) (eBin g ma mb) :=
  (pe_op ho ha hb).wk fun _ _ _ h => lift_bin h
theorem i_cmp {op : CmpOp} {g : D → D → LH → Option (D × LH)} {a b : Expr} {ma mb : EM} {pos : Pos} (ho : OpR X (compareOp op) (rD X.K g)) (ha : IE X W a ma) (hb : IE X W b mb) (hm : behindInMarks op b = false) : IE X W (.Compare a [op] [b] pos) (eBin g ma mb) :=
  (pe_cmpR ho ha hb hm).wk fun _ _ _ h => lift_bin h
theorem i_un {op : UnaryOp} {g : D → LH → Option (D × LH)} {a : Expr} {ma : EM} {pos : Pos} (ho : UnR X (unaryOp op) (uD X.K g)) (ha : IE X W a ma) : IE X W (.UnaryOp op a pos) (eUn g ma) :=
  (pe_un ho ha).wk fun σ H Q ⟨ρ, δ, lh, st, ok, h⟩ => ⟨ρ, δ, lh, st, ok, (Fin.bnd h).imp fun d lh1 ρ1 H1 e1 ok1 h1 v r1 => by
    cases q : g d lh1 with
    | none => rw [q] at h1; exact h1.elim
    | some z =>
      obtain ⟨d3, lh3⟩ := z
      rw [q] at h1
      exact ⟨ρ1, lh1, d, d3, lh3, ok1, r1, q, fun v ρ' H' e o r => h1 ρ' H' e o v r⟩⟩
theorem i_ix {g : D → D → LH → Option (D × LH)} {a b : Expr} {ma mb : EM} {pos : Pos} (ho : IxR X (rD X.K g)) (ha : IE X W a ma) (hb : IE X W b mb) (hs : PlainIx b) : IE X W (.Subscript a b pos) (eBin g ma mb) :=
  (pe_ix ho ha hb hs).wk fun _ _ _ h => lift_bin h
theorem lift_call {g : List D → LH → Option (D × LH)} {a : AM} {K : PySem.W.Frag} {mg : Str → Option Value} {σ : L2.St} {H : Hp} {Q : VK} (h : liftE K mg W (eCall g a) σ H Q) : liftA K mg W a σ H (fun vs H1 => cD K g vs H1 Q) := by
  obtain ⟨ρ, δ, lh, st, ok, h⟩ := h
  refine ⟨ρ, δ, lh, st, ok, (Fin.bnd h).imp fun d lh1 ρ1 H1 e1 ok1 h1 v r1 => ?_⟩
  cases q : g d lh1 with
  | none => rw [q] at h1; exact h1.elim
  | some z =>
    obtain ⟨d3, lh3⟩ := z
    rw [q] at h1
    exact ⟨ρ1, lh1, d, d3, lh3, ok1, r1, q, fun v ρ' H' e o r => h1 ρ' H' e o v r⟩
end
end DL

/-! DL3: tests, and, or, not, if; statements; loops; calls of own defs -/
namespace DL
open PySem PySem.Spec PyProof.Rows L2

def dTruth (d : D) (h : LH) : Option Bool :=
  match d with
  | .non => some false
  | .bl b => some b
  | .int i => some (i != 0)
  | .str x => if x.length ≤ sizeLine then some ((x.length : Int) != 0) else none
  | .tup ds => some (!ds.isEmpty)
  | .raw _ => none
  | .ref i => match h[i]? with
    | some (.lst ds) => some (!ds.isEmpty)
    | some (.rls ds) => some (!ds.isEmpty)
    | some (.dic kvs) => some (!kvs.isEmpty)
    | none => none
theorem Reps.isEmpty {K : PySem.W.Frag} {ρ : List Addr} {H : Hp} {ds : List D} {vs : List V} (h : Reps K ρ H ds vs) : ds.isEmpty = vs.isEmpty := by
  cases ds with
  | nil => cases h; rfl
  | cons d ds => obtain ⟨v, r, rfl, _⟩ := h; rfl
theorem RepK.isEmpty {K : PySem.W.Frag} {ρ : List Addr} {H : Hp} {ds : List (Key × D)} {vs : List (Key × V)} (h : RepK K ρ H ds vs) : ds.isEmpty = vs.isEmpty := by
  cases ds with
  | nil => cases h; rfl
  | cons d ds => obtain ⟨v, r, rfl, _⟩ := h; rfl
theorem LhOk.obj {K : PySem.W.Frag} {ρ : List Addr} {H : Hp} {lh : LH} (ok : LhOk K ρ H lh) {i : Nat} {v : V} {o : LO} (r : Rep K ρ H (.ref i) v) (h : lh[i]? = some o) : ∃ a, v = .ref a ∧ ρ[i]? = some a ∧ ObR K ρ H a o := by
  obtain ⟨a, rfl, ha⟩ := r
  exact ⟨a, rfl, ha, ok.at_ i a o ha h⟩
theorem truth_ok {K : PySem.W.Frag} {ρ : List Addr} {H : Hp} {lh : LH} {d : D} {v : V} {b : Bool} (ok : LhOk K ρ H lh) (r : Rep K ρ H d v) (h : dTruth d lh = some b) : TruV K v H b := by
  cases d with
  | non => cases r; cases h; exact rfl
  | bl x => cases r; cases h; exact rfl
  | int i => cases r; cases h; exact rfl
  | str x =>
    cases r
    unfold dTruth at h
    simp only at h
    split at h
    · rename_i hz; cases h; exact ⟨hz, rfl⟩
    · cases h
  | tup ds =>
    obtain ⟨a, vs, rfl, hs, hr⟩ := r
    cases h
    exact .inr (.inl ⟨vs, hs.sq, by rw [hr.isEmpty]⟩)
  | raw ds => cases h
  | ref i =>
    unfold dTruth at h
    simp only at h
    split at h
    · rename_i ds e
      cases h
      obtain ⟨a, rfl, _, vs, hv, hr⟩ := ok.obj r e
      exact .inl ⟨vs, .inl (.inl hv), by rw [hr.isEmpty]⟩
    · rename_i ds e
      cases h
      obtain ⟨a, rfl, _, vs, hv, hr⟩ := ok.obj r e
      exact .inl ⟨vs, hv.sq, by rw [hr.isEmpty]⟩
    · rename_i ds e
      cases h
      obtain ⟨a, rfl, _, vs, hv, hr⟩ := ok.obj r e
      exact .inr (.inr ⟨vs, hv, by rw [hr.isEmpty]⟩)
    · cases h
def rb (o : Option Bool) (h : LH) : Option (R Bool) := match o with | none => none | some b => some (.ok b h)
@[simp] theorem rb_some (b : Bool) (h : LH) : rb (some b) h = some (.ok b h) := rfl
def tV (m : EM) : TM := fun δ h => bnd (m δ h) fun d h1 => rb (dTruth d h1) h1
def asB : D → Option Bool
  | .bl b => some b
  | _ => none
@[simp] theorem asB_bl (b : Bool) : asB (.bl b) = some b := rfl
def tB (m : EM) : TM := fun δ h => bnd (m δ h) fun d h1 => rb (asB d) h1
def tAnd (a b : TM) : TM := fun δ h => bnd (a δ h) fun c h1 => if c = true then b δ h1 else some (.ok false h1)
def tOr (a b : TM) : TM := fun δ h => bnd (a δ h) fun c h1 => if c = true then some (.ok true h1) else b δ h1
def tNot (a : TM) : TM := fun δ h => bnd (a δ h) fun c h1 => some (.ok (!c) h1)
def eAnd (a b : EM) : EM := fun δ h => bnd (a δ h) fun d h1 => bnd (rb (dTruth d h1) h1) fun c h2 => if c = true then b δ h2 else some (.ok d h2)
def eOr (a b : EM) : EM := fun δ h => bnd (a δ h) fun d h1 => bnd (rb (dTruth d h1) h1) fun c h2 => if c = true then some (.ok d h2) else b δ h2
def eNot (a : EM) : EM := fun δ h => bnd (a δ h) fun d h1 => bnd (rb (dTruth d h1) h1) fun c h2 => some (.ok (.bl (!c)) h2)
def eIf (t : TM) (a b : EM) : EM := fun δ h => bnd (t δ h) fun c h1 => if c = true then a δ h1 else b δ h1
def eChain (g g' : D → D → LH → Option (D × LH)) (a b c : EM) : EM := fun δ h => bnd (a δ h) fun x h1 => bnd (b δ h1) fun y h2 => bnd (opt (g x y h2)) fun z h3 => bnd (rb (asB z) h3) fun k h4 =>
  if k = true then bnd (c δ h4) fun w h5 => opt (g' y w h5) else some (.ok (.bl false) h4)

section
variable {X : Cx} {W : WX} {a b c : Expr} {ma mb mc : EM} {ta tb : TM} {pos : Pos} {rest : List Expr}
theorem lift_tru {m : EM} {K : PySem.W.Frag} {mg : Str → Option Value} {σ : L2.St} {H : Hp} {Q : Bool → Hp → Prop} (h : liftT K mg W (tV m) σ H Q) : liftE K mg W m σ H fun x H' => ∃ k, TruV K x H' k ∧ Q k H' := by
  obtain ⟨ρ, δ, lh, st, ok, h⟩ := h
  refine ⟨ρ, δ, lh, st, ok, (Fin.bnd h).imp fun d lh1 ρ1 H1 e1 ok1 h1 v r1 => ?_⟩
  cases q : dTruth d lh1 with
  | none => rw [q] at h1; exact h1.elim
  | some k => rw [q] at h1; exact ⟨k, truth_ok ok1 r1 q, h1 ρ1 H1 Ext.refl ok1⟩
theorem lift_asB {m : EM} {K : PySem.W.Frag} {mg : Str → Option Value} {σ : L2.St} {H : Hp} {Q : Bool → Hp → Prop} (h : liftT K mg W (tB m) σ H Q) : liftE K mg W m σ H fun x H' => ∃ k, x = .bl k ∧ Q k H' := by
  obtain ⟨ρ, δ, lh, st, ok, h⟩ := h
  refine ⟨ρ, δ, lh, st, ok, (Fin.bnd h).imp fun d lh1 ρ1 H1 e1 ok1 h1 v r1 => ?_⟩
  cases d with
  | bl k => exact ⟨k, r1, h1 ρ1 H1 Ext.refl ok1⟩
  | _ => exact h1.elim
/-- any expression that is tested by its value's truth -/
theorem it_v (ha : IE X W a ma) (he : ∀ whole, isTrue a X.env whole = (do let v ← whole; standAt a.pos; holding [v] (truthy v)) := by exact fun _ => rfl) : IT X W a (tV ma) := (pt_truth ha he).wk fun _ _ _ h => lift_tru h
theorem it_cmp {op : CmpOp} {g : D → D → LH → Option (D × LH)} (ho : OpR X (compareOp op) (rD X.K g)) (ha : IE X W a ma) (hb : IE X W b mb) (hm : behindInMarks op b = false) : IT X W (.Compare a [op] [b] pos) (tB (eBin g ma mb)) := by
  refine (pt_cmpR ho ha hb hm).wk fun σ H Q h => ?_
  show tTest (tOp (rD X.K g) (liftE X.K X.mg W ma) (liftE X.K X.mg W mb)) σ H Q
  exact lift_bin (lift_asB' h)
where
  lift_asB' {m : EM} {K : PySem.W.Frag} {mg : Str → Option Value} {σ : L2.St} {H : Hp} {Q : Bool → Hp → Prop} (h : liftT K mg W (tB m) σ H Q) : liftE K mg W m σ H fun x H' => ∃ k, x = .bl k ∧ Q k H' := lift_asB h
theorem lift_chain {g g' : D → D → LH → Option (D × LH)} {K : PySem.W.Frag} {mg : Str → Option Value} {σ : L2.St} {H : Hp} {Q : VK} (h : liftE K mg W (eChain g g' ma mb mc) σ H Q) :
    tChain (rD K g) (rD K g') (liftE K mg W ma) (liftE K mg W mb) (liftE K mg W mc) σ H Q := by
  obtain ⟨ρ, δ, lh, st, ok, h⟩ := h
  refine ⟨ρ, δ, lh, st, ok, (Fin.bnd h).imp fun d lh1 ρ1 H1 e1 ok1 h1 v r1 => ⟨ρ1, δ, lh1, st.mono e1, ok1, (Fin.bnd h1).imp fun d2 lh2 ρ2 H2 e2 ok2 h2 v2 r2 => ?_⟩⟩
  cases q : g d d2 lh2 with
  | none => rw [q] at h2; exact h2.elim
  | some z =>
    obtain ⟨d3, lh3⟩ := z
    rw [q] at h2
    refine ⟨ρ2, lh2, d, d2, d3, lh3, ok2, Rep.mono e2 _ _ r1, r2, q, fun v3 ρ3 H3 e3 ok3 r3 => ?_⟩
    cases d3 with
    | bl k =>
      refine ⟨k, r3, ?_⟩
      have h3 := Fin.mono h2 e3
      cases k with
      | true =>
        refine iteT ⟨ρ3, δ, lh3, (st.mono e1).mono (e2.trans e3), ok3, ?_⟩
        have h3' : Fin K mg W σ ρ3 H3 (bnd (mc δ lh3) fun w h5 => opt (g' d2 w h5)) fun d _ ρ' H' => ∀ v, Rep K ρ' H' d v → Q v H' := h3
        refine (Fin.bnd h3').imp fun d4 lh4 ρ4 H4 e4 ok4 h4 v4 r4 => ?_
        cases q' : g' d2 d4 lh4 with
        | none => rw [q'] at h4; exact h4.elim
        | some z =>
          obtain ⟨d5, lh5⟩ := z
          rw [q'] at h4
          exact ⟨ρ4, lh4, d2, d4, d5, lh5, ok4, Rep.mono (e3.trans e4) _ _ r2, r4, q', fun v ρ' H' e o r => h4 ρ' H' e o v r⟩
      | false => exact iteF (h3 ρ3 H3 Ext.refl ok3 _ rfl)
    | _ => exact h2.elim
theorem i_chain {op op' : CmpOp} {g g' : D → D → LH → Option (D × LH)} (ho : OpR X (compareOp op) (rD X.K g)) (ho' : OpR X (compareOp op') (rD X.K g')) (ha : IE X W a ma) (hb : IE X W b mb) (hc : IE X W c mc)
    (hm : lastMarks [op, op'] [b, c] = false := by with_unfolding_all rfl) : IE X W (.Compare a [op, op'] [b, c] pos) (eChain g g' ma mb mc) := (pe_chain ho ho' ha hb hc hm).wk fun _ _ _ h => lift_chain h
theorem it_chain {op op' : CmpOp} {g g' : D → D → LH → Option (D × LH)} (ho : OpR X (compareOp op) (rD X.K g)) (ho' : OpR X (compareOp op') (rD X.K g')) (ha : IE X W a ma) (hb : IE X W b mb) (hc : IE X W c mc)
    (hm : lastMarks [op, op'] [b, c] = false := by with_unfolding_all rfl) : IT X W (.Compare a [op, op'] [b, c] pos) (tB (eChain g g' ma mb mc)) := (pt_chain ho ho' ha hb hc hm).wk fun _ _ _ h => lift_chain (lift_asB h)

theorem iw_and1 (ha : IT X W a ta) : IW X W (.BoolOp .And [a] pos) ta := pw_and1 ha
theorem iw_or1 (ha : IT X W a ta) : IW X W (.BoolOp .Or [a] pos) ta := pw_or1 ha
theorem iw_and (ha : IT X W a ta) (hb : IW X W (.BoolOp .And (b :: rest) pos) tb) : IW X W (.BoolOp .And (a :: b :: rest) pos) (tAnd ta tb) :=
  (pw_and ha hb).wk fun σ H Q ⟨ρ, δ, lh, st, ok, h⟩ => ⟨ρ, δ, lh, st, ok, (Fin.bnd h).imp fun k lh1 ρ1 H1 e1 ok1 h1 => by
    cases k with
    | true => exact iteT ⟨ρ1, δ, lh1, st.mono e1, ok1, h1⟩
    | false => exact iteF (h1 ρ1 H1 Ext.refl ok1)⟩
theorem iw_or (ha : IT X W a ta) (hb : IW X W (.BoolOp .Or (b :: rest) pos) tb) : IW X W (.BoolOp .Or (a :: b :: rest) pos) (tOr ta tb) :=
  (pw_or ha hb).wk fun σ H Q ⟨ρ, δ, lh, st, ok, h⟩ => ⟨ρ, δ, lh, st, ok, (Fin.bnd h).imp fun k lh1 ρ1 H1 e1 ok1 h1 => by
    cases k with
    | true => exact iteT (h1 ρ1 H1 Ext.refl ok1)
    | false => exact iteF ⟨ρ1, δ, lh1, st.mono e1, ok1, h1⟩⟩
theorem it_w (h : IW X W a ta) : IT X W a ta := h.pt
theorem it_not (ha : IT X W a ta) : IT X W (.UnaryOp .Not a pos) (tNot ta) :=
  (pt_not ha).wk fun σ H Q ⟨ρ, δ, lh, st, ok, h⟩ => ⟨ρ, δ, lh, st, ok, (Fin.bnd h).imp fun k lh1 ρ1 H1 e1 ok1 h1 => h1 ρ1 H1 Ext.refl ok1⟩
theorem i_one {op} (ha : IE X W a ma) : IE X W (.BoolOp op [a] pos) ma := pe_one ha
theorem i_and (ha : IE X W a ma) (hb : IE X W (.BoolOp .And (b :: rest) pos) mb) : IE X W (.BoolOp .And (a :: b :: rest) pos) (eAnd ma mb) :=
  (pe_andT ha hb).wk fun σ H Q ⟨ρ, δ, lh, st, ok, h⟩ => ⟨ρ, δ, lh, st, ok, (Fin.bnd h).imp fun d lh1 ρ1 H1 e1 ok1 h1 v r1 => by
    cases q : dTruth d lh1 with
    | none => rw [q] at h1; exact h1.elim
    | some k =>
      rw [q] at h1
      refine ⟨k, truth_ok ok1 r1 q, ?_⟩
      cases k with
      | true => exact iteT ⟨ρ1, δ, lh1, st.mono e1, ok1, h1⟩
      | false => exact iteF (h1 ρ1 H1 Ext.refl ok1 v r1)⟩
theorem i_or (ha : IE X W a ma) (hb : IE X W (.BoolOp .Or (b :: rest) pos) mb) : IE X W (.BoolOp .Or (a :: b :: rest) pos) (eOr ma mb) :=
  (pe_orT ha hb).wk fun σ H Q ⟨ρ, δ, lh, st, ok, h⟩ => ⟨ρ, δ, lh, st, ok, (Fin.bnd h).imp fun d lh1 ρ1 H1 e1 ok1 h1 v r1 => by
    cases q : dTruth d lh1 with
    | none => rw [q] at h1; exact h1.elim
    | some k =>
      rw [q] at h1
      refine ⟨k, truth_ok ok1 r1 q, ?_⟩
      cases k with
      | true => exact iteT (h1 ρ1 H1 Ext.refl ok1 v r1)
      | false => exact iteF ⟨ρ1, δ, lh1, st.mono e1, ok1, h1⟩⟩
theorem i_not (ha : IE X W a ma) : IE X W (.UnaryOp .Not a pos) (eNot ma) :=
  (pe_notT ha).wk fun σ H Q ⟨ρ, δ, lh, st, ok, h⟩ => ⟨ρ, δ, lh, st, ok, (Fin.bnd h).imp fun d lh1 ρ1 H1 e1 ok1 h1 v r1 => by
    cases q : dTruth d lh1 with
    | none => rw [q] at h1; exact h1.elim
    | some k =>
      rw [q] at h1
      exact ⟨k, truth_ok ok1 r1 q, h1 ρ1 H1 Ext.refl ok1 _ rfl⟩⟩
theorem i_if (hc : IT X W c ta) (ha : IE X W a ma) (hb : IE X W b mb) : IE X W (.IfExp c a b pos) (eIf ta ma mb) :=
  (pe_ifExp hc ha hb).wk fun σ H Q ⟨ρ, δ, lh, st, ok, h⟩ => ⟨ρ, δ, lh, st, ok, (Fin.bnd h).imp fun k lh1 ρ1 H1 e1 ok1 h1 => by
    cases k with
    | true => exact iteT ⟨ρ1, δ, lh1, st.mono e1, ok1, h1⟩
    | false => exact iteF ⟨ρ1, δ, lh1, st.mono e1, ok1, h1⟩⟩
end

/-! ### statements -/
def sNx : SM := fun δ h => some (.nx δ h)
def sSeq (a b : SM) : SM := fun δ h => match a δ h with
  | some (.nx δ' h') => b δ' h'
  | r => r
def sIf (t : TM) (a b : SM) : SM := fun δ h => bndS δ (t δ h) fun c h1 => if c = true then a δ h1 else b δ h1
def sAsg (m : EM) (g : GM) : SM := fun δ h => bndS δ (m δ h) fun d h1 => match g d δ h1 with | none => none | some (δ', h2) => some (.nx δ' h2)
def sExpr (m : EM) : SM := fun δ h => bndS δ (m δ h) fun _ h1 => some (.nx δ h1)
def sRet (m : EM) : SM := fun δ h => bndS δ (m δ h) fun d h1 => some (.rt d h1)
def sRetN : SM := fun _ h => some (.rt .non h)
def sBrk : SM := fun δ h => some (.bk δ h)
def sCont : SM := fun δ h => some (.ct δ h)
def gN (i : Nat) : GM := fun d δ h => some (δ.set i (some d), h)
def gTupL : List GM → List D → DSt → LH → Option (DSt × LH)
  | [], [], δ, h => some (δ, h)
  | g :: gs, d :: ds, δ, h => match g d δ h with | none => none | some (δ', h') => gTupL gs ds δ' h'
  | _, _, _, _ => none
def gTup (gs : List GM) : GM := fun d δ h => match d with
  | .tup ds => gTupL gs ds δ h
  | .raw ds => gTupL gs ds δ h
  | _ => none
@[simp] theorem sSeq_nx {a b : SM} {δ δ' : DSt} {h h' : LH} (e : a δ h = some (.nx δ' h')) : sSeq a b δ h = b δ' h' := by unfold sSeq; rw [e]
section
variable {X : Cx} {W : WX} {st : Stmt} {rs : List Stmt} {m m' : SM} {e : Expr} {me : EM} {pos : Pos}
theorem is_nil : ISs X W [] sNx := pss_nil.wk fun De σ H ⟨ρ, δ, lh, st, ok, h⟩ => h σ ρ H Ext.refl ok st
theorem is_one (h : IS X W st m) : ISs X W [st] m := pss_one h
theorem is_cons (h : IS X W st m) (k : ISs X W rs m') : ISs X W (st :: rs) (sSeq m m') :=
  (pss_cons h k).wk fun De σ H ⟨ρ, δ, lh, st, ok, h⟩ => by
    refine ⟨ρ, δ, lh, st, ok, ?_⟩
    unfold sSeq at h
    match q : m δ lh, h with
    | some (.nx δ' lh'), h => exact fun σ' ρ' H' e1 ok1 st1 => ⟨ρ', δ', lh', st1, ok1, FinS.mono h e1⟩
    | some (.rt d lh'), h => exact h
    | some (.bk δ' lh'), h => exact h
    | some (.ct δ' lh'), h => exact h
    | some (.ex x δ' lh'), h => exact h
theorem is_pass : IS X W (.Pass pos) sNx := ps_pass.wk fun De σ H ⟨ρ, δ, lh, st, ok, h⟩ => h σ ρ H Ext.refl ok st
theorem is_brk : IS X W (.Break pos) sBrk := ps_break.wk fun De σ H ⟨ρ, δ, lh, st, ok, h⟩ => h σ ρ H Ext.refl ok st
theorem is_cont : IS X W (.Continue pos) sCont := ps_continue.wk fun De σ H ⟨ρ, δ, lh, st, ok, h⟩ => h σ ρ H Ext.refl ok st
theorem is_expr (he : IE X W e me) (hs : swapsWith e none pos.line X.env = pure false := by rfl) : IS X W (.Expr e pos) (sExpr me) :=
  (ps_expr he hs).wk fun De σ H ⟨ρ, δ, lh, st, ok, h⟩ => ⟨ρ, δ, lh, st, ok, (FinS.bnd st h).imp fun d lh1 ρ1 H1 e1 ok1 h1 v r1 => h1 σ ρ1 H1 Ext.refl ok1 (st.mono e1)⟩
theorem is_ret (he : IE X W e me) : IS X W (.Return (some e) pos) (sRet me) :=
  (ps_ret he).wk fun De σ H ⟨ρ, δ, lh, st, ok, h⟩ => ⟨ρ, δ, lh, st, ok, (FinS.bnd st h).imp fun d lh1 ρ1 H1 e1 ok1 h1 v r1 => h1 v ρ1 H1 Ext.refl ok1 r1⟩
theorem is_retN : IS X W (.Return none pos) sRetN := ps_retN.wk fun De σ H ⟨ρ, δ, lh, st, ok, h⟩ => h .non ρ H Ext.refl ok rfl
theorem is_if {c : Expr} {a b : List Stmt} {t : TM} {ma mb : SM} (hc : IT X W c t) (ha : ISs X W a ma) (hb : ISs X W b mb) : IS X W (.If c a b pos) (sIf t ma mb) :=
  (ps_if hc ha hb).wk fun De σ H ⟨ρ, δ, lh, st, ok, h⟩ => ⟨ρ, δ, lh, st, ok, (FinS.bnd st h).imp fun k lh1 ρ1 H1 e1 ok1 h1 => by
    cases k with
    | true => exact iteT ⟨ρ1, δ, lh1, st.mono e1, ok1, h1⟩
    | false => exact iteF ⟨ρ1, δ, lh1, st.mono e1, ok1, h1⟩⟩
/-- a doc string -/
theorem is_doc {x j pos'} : IS X W (.Expr (.Constant (.str x) j pos) pos') sNx := ps_doc.wk fun De σ H ⟨ρ, δ, lh, st, ok, h⟩ => h σ ρ H Ext.refl ok st

theorem StR.set {K : PySem.W.Frag} {ρ : List Addr} {H : Hp} {δ : DSt} {σ : L2.St} (st : StR K ρ H δ σ) {i : Nat} {d : D} {v : V} (r : Rep K ρ H d v) : StR K ρ H (δ.set i (some d)) (σ.set i (some v)) := by
  refine ⟨by simp [st.1], fun j d' hj => ?_⟩
  by_cases hi : j = i
  · subst hi
    have hl : j < δ.length := by
      have := (List.getElem?_eq_some_iff.mp hj).1
      simpa using this
    rw [List.getElem?_set_self hl] at hj
    cases hj
    exact ⟨v, List.getElem?_set_self (by rw [← st.1]; exact hl), r⟩
  · rw [List.getElem?_set_ne (Ne.symm hi)] at hj
    rw [List.getElem?_set_ne (Ne.symm hi)]
    exact st.2 j d' hj
/-! targets -/
theorem ig_n (i : Nat) {x : Str} (nd : X.N.Nodup) (hi : X.N[i]? = some x := by rfl) (hx : Loc X.env.scope x := by first | exact Or.inl rfl | exact Or.inr rfl) (hf : X.fn x = true ∨ X.env.scope.names.lookup x = some .local := by first | exact .inl rfl | exact .inr rfl) : IG X (.Name x pos) (gN i) :=
  (pg_name nd hi hx hf).wk fun v σ H Q ⟨ρ, d, δ, lh, r, st, ok, δ', lh', e, q⟩ => by
    cases e
    exact q _ ρ H Ext.refl ok (st.set r)
theorem igs_nil : PGs X [] (fun vs σ H Q => ∃ ρ ds δ lh, Reps X.K ρ H ds vs ∧ StR X.K ρ H δ σ ∧ LhOk X.K ρ H lh ∧ ∃ δ' lh', gTupL [] ds δ lh = some (δ', lh') ∧ ∀ σ' ρ' H', Ext X.K ρ ρ' H H' → LhOk X.K ρ' H' lh' → StR X.K ρ' H' δ' σ' → Q σ' H') :=
  ⟨fun pins s σ H vs us Q I r h => pgs_nil.run pins s σ H vs us Q I r (by
    obtain ⟨ρ, ds, δ, lh, r1, st, ok, δ', lh', e, q⟩ := h
    cases ds with
    | nil => cases r1; cases e; exact ⟨rfl, q σ ρ H Ext.refl ok st⟩
    | cons d ds => cases e)⟩
def liftGs (K : PySem.W.Frag) (gs : List GM) : TGs := fun vs σ H Q => ∃ ρ ds δ lh, Reps K ρ H ds vs ∧ StR K ρ H δ σ ∧ LhOk K ρ H lh ∧ ∃ δ' lh', gTupL gs ds δ lh = some (δ', lh') ∧
  ∀ σ' ρ' H', Ext K ρ ρ' H H' → LhOk K ρ' H' lh' → StR K ρ' H' δ' σ' → Q σ' H'
abbrev IGs (X : Cx) (es : List Expr) (gs : List GM) : Prop := PGs X es (liftGs X.K gs)
theorem ig_nil : IGs X [] [] := igs_nil
theorem ig_cons {t : Expr} {ts : List Expr} {g : GM} {gs : List GM} (h1 : IG X t g) (h2 : IGs X ts gs) (hs : (assignEach (t :: ts) X.env).map (·.2) = assign t X.env :: (assignEach ts X.env).map (·.2) := by rfl) : IGs X (t :: ts) (g :: gs) :=
  ⟨fun pins s σ H vs us Q I r h => (pgs_cons h1 h2 hs).run pins s σ H vs us Q I r (by
    obtain ⟨ρ, ds, δ, lh, r1, st, ok, δ', lh', e, q⟩ := h
    cases ds with
    | nil => cases e
    | cons d ds =>
      obtain ⟨v, vr, rfl, rv, rr⟩ := r1
      unfold gTupL at e
      cases q1 : g d δ lh with
      | none => rw [q1] at e; cases e
      | some z =>
        obtain ⟨δ1, lh1⟩ := z
        rw [q1] at e
        exact ⟨v, vr, rfl, ρ, d, δ, lh, rv, st, ok, δ1, lh1, q1, fun σ1 ρ1 H1 e1 ok1 st1 => ⟨ρ1, ds, δ1, lh1, Reps.mono e1 _ _ rr, st1, ok1, δ', lh', e, fun σ2 ρ2 H2 e2 ok2 st2 => q σ2 ρ2 H2 (e1.trans e2) ok2 st2⟩⟩)⟩
theorem gTupL_len : ∀ {gs : List GM} {ds : List D} {δ : DSt} {h : LH} {r : DSt × LH}, gTupL gs ds δ h = some r → ds.length = gs.length
  | [], [], _, _, _, _ => rfl
  | [], _ :: _, _, _, _, e => by cases e
  | _ :: _, [], _, _, _, e => by cases e
  | g :: gs, d :: ds, δ, h, r, e => by
    unfold gTupL at e
    cases q1 : g d δ h with
    | none => rw [q1] at e; cases e
    | some z =>
      rw [q1] at e
      simp [gTupL_len (gs := gs) e]
theorem ig_tup {es : List Expr} {k : Nat} {gs : List GM} (hc : X.calm = true) (h : IGs X es gs) (hn : (assignEach es X.env).length = gs.length := by rfl) (hst : (assignEach es X.env).findIdx? (·.1) = none := by rfl) : IG X (.Tuple es k pos) (gTup gs) :=
  (pg_tup hc h hn hst).wk fun v σ H Q ⟨ρ, d, δ, lh, r, st, ok, δ', lh', e, q⟩ => by
    cases d with
    | tup ds =>
      obtain ⟨a, vs, rfl, hs, hr⟩ := r
      exact ⟨a, vs, rfl, hs.sq, by rw [← hr.length]; exact gTupL_len e, ρ, ds, δ, lh, hr, st, ok, δ', lh', e, q⟩
    | raw ds =>
      obtain ⟨a, vs, rfl, hs, hr⟩ := r
      exact ⟨a, vs, rfl, hs, by rw [← hr.length]; exact gTupL_len e, ρ, ds, δ, lh, hr, st, ok, δ', lh', e, q⟩
    | _ => cases e
theorem lift_asg {K : PySem.W.Frag} {mg : Str → Option Value} {g : GM} {De : Ends} {σ : L2.St} {H : Hp} (h : liftS K mg W (sAsg me g) De σ H) : tAsg (liftE K mg W me) (liftG K g) De σ H := by
  obtain ⟨ρ, δ, lh, st, ok, h⟩ := h
  refine ⟨ρ, δ, lh, st, ok, (FinS.bnd st h).imp fun d lh1 ρ1 H1 e1 ok1 h1 v r1 => ?_⟩
  cases q : g d δ lh1 with
  | none => rw [q] at h1; exact h1.elim
  | some z =>
    obtain ⟨δ', lh'⟩ := z
    rw [q] at h1
    exact ⟨ρ1, d, δ, lh1, r1, st.mono e1, ok1, δ', lh', q, fun σ' ρ' H' e o s => h1 σ' ρ' H' e o s⟩
theorem is_asg {tg : Expr} {g : GM} (he : IE X W e me) (hg : IG X tg g) (hs : swapsWithSole [tg] e pos.line X.env = pure false := by rfl) (hw : swappedStores [tg] e X.env = pure none := by rfl)
    (h1 : (assignEach [tg] X.env).map (·.2) = [assign tg X.env] := by rfl) : IS X W (.Assign [tg] e pos) (sAsg me g) := (ps_asg he hg hs hw h1).wk fun _ _ _ h => lift_asg h
theorem is_set (i : Nat) {x : Str} {pos' : Pos} (nd : X.N.Nodup) (he : IE X W e me) (hi : X.N[i]? = some x := by rfl) (hx : Loc X.env.scope x := by first | exact Or.inl rfl | exact Or.inr rfl) (hs : swapsWith e (some (.Name x pos')) pos.line X.env = pure false := by rfl)
    (hf : X.fn x = true ∨ X.env.scope.names.lookup x = some .local := by first | exact .inl rfl | exact .inr rfl) : IS X W (.Assign [.Name x pos'] e pos) (sAsg me (gN i)) :=
  (ps_set nd hi hx he hs hf).wk fun De σ H h => by
    obtain ⟨ρ, δ, lh, st, ok, h⟩ := h
    refine ⟨ρ, δ, lh, st, ok, (FinS.bnd st h).imp fun d lh1 ρ1 H1 e1 ok1 h1 v r1 => ?_⟩
    exact h1 _ ρ1 H1 Ext.refl ok1 ((st.mono e1).set r1)
/-- a, b = x, y: two local names -/
def sPar (i j : Nat) (a : AM) : SM := fun δ h => bndS δ (a δ h) fun ds h1 => match ds with
  | [x, y] => some (.nx ((δ.set i (some x)).set j (some y)) h1)
  | _ => none
theorem is_par (i j : Nat) {x y : Str} {a b : Expr} {ma : AM} {px py pt : Pos} {kt k2 pt2} (hc : X.calm = true) (hN : X.N.Nodup) (ha : IA X W [a, b] ma) (hi : X.N[i]? = some x := by rfl) (hj : X.N[j]? = some y := by rfl) (hij : i ≠ j := by decide)
    (hx : X.env.scope.names.lookup x = some .local := by rfl) (hy : X.env.scope.names.lookup y = some .local := by rfl)
    (hw : swappedStores [.Tuple [.Name x px, .Name y py] kt pt] (.Tuple [a, b] k2 pt2) X.env = pure (some [x, y]) := by rfl)
    (hs : swapsWithSole [.Tuple [.Name x px, .Name y py] kt pt] (.Tuple [a, b] k2 pt2) pos.line X.env = pure false := by rfl) :
    IS X W (.Assign [.Tuple [.Name x px, .Name y py] kt pt] (.Tuple [a, b] k2 pt2) pos) (sPar i j ma) :=
  (ps_par hc hN hi hj hij hx hy ha hw hs).wk fun De σ H h => by
    obtain ⟨ρ, δ, lh, st, ok, h⟩ := h
    refine ⟨ρ, δ, lh, st, ok, (FinS.bnd st h).imp fun ds lh1 ρ1 H1 e1 ok1 h1 vs r1 => ?_⟩
    match ds, r1, h1 with
    | [x, y], r1, h1 =>
      obtain ⟨v, r, rfl, rv, w', r', rfl, rw', rn⟩ := r1
      cases rn
      exact ⟨v, w', rfl, h1 _ ρ1 H1 Ext.refl ok1 (((st.mono e1).set rv).set rw')⟩
    | [], _, h1 => exact h1.elim
    | [_], _, h1 => exact h1.elim
    | _ :: _ :: _ :: _, _, h1 => exact h1.elim
end
end DL

/-! DL4: while, what is walked, for, list comprehensions -/
namespace DL
open PySem PySem.Spec PyProof.Rows L2

/-! ### while -/
def whN (t : TM) (b : SM) : Nat → SM
  | 0, _, _ => none
  | n + 1, δ, h => bndS δ (t δ h) fun c h1 => if c = true then
      (match b δ h1 with
      | some (.nx δ' h') => whN t b n δ' h'
      | some (.ct δ' h') => whN t b n δ' h'
      | some (.bk δ' h') => some (.nx δ' h')
      | r => r)
    else some (.nx δ h1)
theorem bndS_some {α : Type} {δ : DSt} {m : Option (R α)} {f f' : α → LH → Option SR} {r : SR} (h : bndS δ m f = some r) (k : ∀ a lh, f a lh = some r → f' a lh = some r) : bndS δ m f' = some r := by
  match m, h with
  | some (.ok a lh), h => exact k a lh h
  | some (.exc e lh), h => exact h
theorem whN_succ {t : TM} {b : SM} : ∀ {n : Nat} {δ : DSt} {h : LH} {r : SR}, whN t b n δ h = some r → whN t b (n + 1) δ h = some r
  | 0, _, _, _, e => by cases e
  | n + 1, δ, h, r, e => by
    unfold whN at e ⊢
    refine bndS_some e fun c h1 q => ?_
    cases c with
    | false => exact q
    | true =>
      simp only [if_true] at q ⊢
      match hb : b δ h1, q with
      | some (.nx δ' h'), q => exact whN_succ q
      | some (.ct δ' h'), q => exact whN_succ q
      | some (.bk δ' h'), q => exact q
      | some (.rt d h'), q => exact q
      | some (.ex x δ' h'), q => exact q
theorem whN_le {t : TM} {b : SM} {n m : Nat} {δ : DSt} {h : LH} {r : SR} (e : whN t b n δ h = some r) (l : n ≤ m) : whN t b m δ h = some r := by
  induction l with
  | refl => exact e
  | step _ ih => exact whN_succ ih
open Classical in
noncomputable def sWh (t : TM) (b : SM) : SM := fun δ h => if x : ∃ r n, whN t b n δ h = some r then some x.choose else none
theorem sWh_of {t : TM} {b : SM} {n : Nat} {δ : DSt} {h : LH} {r : SR} (e : whN t b n δ h = some r) : sWh t b δ h = some r := by
  have x : ∃ r n, whN t b n δ h = some r := ⟨r, n, e⟩
  unfold sWh
  rw [dif_pos x]
  obtain ⟨m, q⟩ := x.choose_spec
  have h1 := whN_le e (Nat.le_max_left n m)
  have h2 := whN_le q (Nat.le_max_right n m)
  rw [h1] at h2
  exact h2.symm
theorem sWh_ex {t : TM} {b : SM} {δ : DSt} {h : LH} {r : SR} (e : sWh t b δ h = some r) : ∃ n, whN t b n δ h = some r := by
  unfold sWh at e
  split at e
  · rename_i x
    cases e
    exact x.choose_spec
  · cases e
theorem sWh_eq (t : TM) (b : SM) (δ : DSt) (h : LH) : sWh t b δ h = bndS δ (t δ h) fun c h1 => if c = true then
      (match b δ h1 with
      | some (.nx δ' h') => sWh t b δ' h'
      | some (.ct δ' h') => sWh t b δ' h'
      | some (.bk δ' h') => some (.nx δ' h')
      | r => r)
    else some (.nx δ h1) := by
  have up : ∀ r, (bndS δ (t δ h) fun c h1 => if c = true then
      (match b δ h1 with
      | some (.nx δ' h') => sWh t b δ' h'
      | some (.ct δ' h') => sWh t b δ' h'
      | some (.bk δ' h') => some (.nx δ' h')
      | r => r)
    else some (.nx δ h1)) = some r → sWh t b δ h = some r := fun r e => by
    match q : t δ h, e with
    | some (.exc x lh), e => exact sWh_of (n := 1) (by unfold whN; rw [q]; exact e)
    | some (.ok false lh), e => exact sWh_of (n := 1) (by unfold whN; rw [q]; exact e)
    | some (.ok true lh), e =>
      simp only [bndS_ok, if_true] at e
      match hb : b δ lh, e with
      | some (.nx δ' h'), e =>
        obtain ⟨n, e⟩ := sWh_ex e
        exact sWh_of (n := n + 1) (by unfold whN; rw [q]; simp only [bndS_ok, if_true, hb]; exact e)
      | some (.ct δ' h'), e =>
        obtain ⟨n, e⟩ := sWh_ex e
        exact sWh_of (n := n + 1) (by unfold whN; rw [q]; simp only [bndS_ok, if_true, hb]; exact e)
      | some (.bk δ' h'), e => exact sWh_of (n := 1) (by unfold whN; rw [q]; simp only [bndS_ok, if_true, hb]; exact e)
      | some (.rt d h'), e => exact sWh_of (n := 1) (by unfold whN; rw [q]; simp only [bndS_ok, if_true, hb]; exact e)
      | some (.ex x δ' h'), e => exact sWh_of (n := 1) (by unfold whN; rw [q]; simp only [bndS_ok, if_true, hb]; exact e)
  have down : ∀ r, sWh t b δ h = some r → (bndS δ (t δ h) fun c h1 => if c = true then
      (match b δ h1 with
      | some (.nx δ' h') => sWh t b δ' h'
      | some (.ct δ' h') => sWh t b δ' h'
      | some (.bk δ' h') => some (.nx δ' h')
      | r => r)
    else some (.nx δ h1)) = some r := fun r e => by
    obtain ⟨n, e⟩ := sWh_ex e
    cases n with
    | zero => cases e
    | succ n =>
      unfold whN at e
      refine bndS_some e fun c h1 q => ?_
      cases c with
      | false => exact q
      | true =>
        simp only [if_true] at q ⊢
        match hb : b δ h1, q with
        | some (.nx δ' h'), q => exact sWh_of q
        | some (.ct δ' h'), q => exact sWh_of q
        | some (.bk δ' h'), q => exact q
        | some (.rt d h'), q => exact q
        | some (.ex x δ' h'), q => exact q
  match e : sWh t b δ h with
  | some r => exact (down r e).symm
  | none =>
    match e2 : (bndS δ (t δ h) fun c h1 => if c = true then
      (match b δ h1 with
      | some (.nx δ' h') => sWh t b δ' h'
      | some (.ct δ' h') => sWh t b δ' h'
      | some (.bk δ' h') => some (.nx δ' h')
      | r => r)
    else some (.nx δ h1)) with
    | none => rfl
    | some r => rw [up r e2] at e; cases e

section
variable {X : Cx} {W : WX} {pos : Pos}
theorem is_wh {c : Expr} {body : List Stmt} {t : TM} {b : SM} (po : PassesOwn (model X.prog X.w) X.A X.env X.xe) (hc : IT X W c t) (hb : ISs X W body b) : IS X W (.While c body [] pos) (sWh t b) :=
  (ps_while po hc hb).wk fun De σ H ⟨ρ, δ, lh, st, ok, h⟩ => by
    match e : sWh t b δ lh, h with
    | some r, h =>
      obtain ⟨n, e⟩ := sWh_ex e
      refine ⟨fun n σ' H' => ∃ ρ' δ' lh', StR X.K ρ' H' δ' σ' ∧ LhOk X.K ρ' H' lh' ∧ ∃ r, whN t b n δ' lh' = some r ∧ FinS X.K X.mg W ρ' H' De (some r), ⟨n, ρ, δ, lh, st, ok, r, e, h⟩, ?_⟩
      rintro m σ1 H1 ⟨ρ1, δ1, lh1, st1, ok1, r1, e1, h1⟩
      cases m with
      | zero => cases e1
      | succ m =>
        have e2 : (bndS δ1 (t δ1 lh1) fun c h1 => if c = true then
            (match b δ1 h1 with
            | some (.nx δ' h') => whN t b m δ' h'
            | some (.ct δ' h') => whN t b m δ' h'
            | some (.bk δ' h') => some (.nx δ' h')
            | r => r)
          else some (.nx δ1 h1)) = some r1 := e1
        rw [← e2] at h1
        refine ⟨ρ1, δ1, lh1, st1, ok1, (FinS.bnd st1 h1).imp fun k lh2 ρ2 H2 ex2 ok2 h2 => ?_⟩
        cases k with
        | false => exact iteF (h2 σ1 ρ2 H2 Ext.refl ok2 (st1.mono ex2))
        | true =>
          refine iteT ⟨fun σ' H' => ∃ ρ' δ' lh', StR X.K ρ' H' δ' σ' ∧ LhOk X.K ρ' H' lh' ∧ ∃ r, whN t b m δ' lh' = some r ∧ FinS X.K X.mg W ρ' H' De (some r), ?_, ρ2, δ1, lh2, st1.mono ex2, ok2, ?_⟩
          · rintro σ' H' w
            exact ⟨m, Nat.lt_succ_self m, w⟩
          · simp only [if_true] at h2
            generalize b δ1 lh2 = rb at h2 ⊢
            have again : ∀ {δ' : DSt} {h' : LH}, FinS X.K X.mg W ρ2 H2 De (whN t b m δ' h') → ∀ σ3 ρ3 H3, Ext X.K ρ2 ρ3 H2 H3 → LhOk X.K ρ3 H3 h' → StR X.K ρ3 H3 δ' σ3 →
                ∃ ρ' δ' lh', StR X.K ρ' H3 δ' σ3 ∧ LhOk X.K ρ' H3 lh' ∧ ∃ r, whN t b m δ' lh' = some r ∧ FinS X.K X.mg W ρ' H3 De (some r) := fun {δ' h'} q σ3 ρ3 H3 e3 ok3 st3 => by
              have h3 := FinS.mono q e3
              cases q : whN t b m δ' h' with
              | none => rw [q] at h3; exact h3.elim
              | some r3 => rw [q] at h3; exact ⟨ρ3, δ', h', st3, ok3, r3, q, h3⟩
            match rb, h2 with
            | some (.nx δ' h'), h2 => exact again h2
            | some (.ct δ' h'), h2 => exact again h2
            | some (.bk δ' h'), h2 => exact h2
            | some (.rt d h'), h2 => exact h2
            | some (.ex x δ' h'), h2 => exact h2
end

/-! ### what is walked: its items, the list that it stands on -/
structure ItD where
  items : List D
  g : List (Nat × LO)
def ItD.ok (it : ItD) (h : LH) : Prop := ∀ i o, (i, o) ∈ it.g → h[i]? = some o
abbrev IM := DSt → LH → Option (R ItD)
def ItOk (K : PySem.W.Frag) (ρ0 : List Addr) (H0 : Hp) (it : ItD) (J : It) : Prop := ∀ ρ H lh, Ext K ρ0 ρ H0 H → LhOk K ρ H lh → it.ok lh →
  (∀ (i : Nat) (d : D), it.items[i]? = some d → J.go i H ∧ ∀ x H', J.yld i H x H' → Ext K ρ ρ H H' ∧ LhOk K ρ H' lh ∧ Rep K ρ H' d x) ∧ J.stop it.items.length H
def liftI (K : PySem.W.Frag) (mg : Str → Option Value) (W : WX) (m : IM) : TI := fun σ H R => ∃ ρ δ lh, StR K ρ H δ σ ∧ LhOk K ρ H lh ∧
  Fin K mg W σ ρ H (m δ lh) fun it lh1 ρ1 H1 => ∀ J, it.ok lh1 → ItOk K ρ1 H1 it J → R J H1
abbrev II (X : Cx) (W : WX) (tg e : Expr) (m : IM) : Prop := PI X tg e (liftI X.K X.mg W m)
open Classical in
noncomputable def forL (it : ItD) (g : GM) (b : SM) : List D → SM
  | [], δ, h => some (.nx δ h)
  | d :: ds, δ, h => match g d δ h with
    | none => none
    | some (δ1, h1) => match b δ1 h1 with
      | some (.nx δ2 h2) => if it.ok h2 then forL it g b ds δ2 h2 else none
      | some (.ct δ2 h2) => if it.ok h2 then forL it g b ds δ2 h2 else none
      | some (.bk δ2 h2) => some (.nx δ2 h2)
      | r => r
noncomputable def sFor (m : IM) (g : GM) (b : SM) : SM := fun δ h => bndS δ (m δ h) fun it h1 => forL it g b it.items δ h1
section
variable {X : Cx} {W : WX} {pos : Pos}
theorem is_for {tg iter : Expr} {body : List Stmt} {m : IM} {g : GM} {b : SM} (c : Cd X W) (hi : II X W tg iter m) (hg : IG X tg g) (hb : ISs X W body b) (hs : ∀ x, foldedSetIterable iter X.env x = pure x := by intro _; rfl) : IS X W (.For tg iter body [] pos) (sFor m g b) :=
  (ps_for c.po c.calm hi hg hb hs).wk fun De σ H ⟨ρ, δ, lh, st, ok, h⟩ => ⟨ρ, δ, lh, st, ok, (FinS.bnd st h).imp fun it lh1 ρ1 H1 e1 ok1 h1 J i1 itok => by
    refine ⟨fun i k σ' H' => k = it.items.length - i ∧ i ≤ it.items.length ∧ ∃ ρ' δ' lh', StR X.K ρ' H' δ' σ' ∧ LhOk X.K ρ' H' lh' ∧ Ext X.K ρ1 ρ' H1 H' ∧ it.ok lh' ∧ FinS X.K X.mg W ρ' H' De (forL it g b (it.items.drop i) δ' lh'),
      ⟨it.items.length, by simp, Nat.zero_le _, ρ1, δ, lh1, st.mono e1, ok1, Ext.refl, i1, by simpa using h1⟩, ?_⟩
    rintro i k σ2 H2 ⟨hk, hi2, ρ2, δ2, lh2, st2, ok2, e2, i2, h2⟩
    obtain ⟨A, B⟩ := itok ρ2 H2 lh2 e2 ok2 i2
    by_cases hl : i < it.items.length
    · obtain ⟨d, hd⟩ : ∃ d, it.items[i]? = some d := ⟨_, List.getElem?_eq_getElem hl⟩
      obtain ⟨go, yl⟩ := A i d hd
      have hdrop : it.items.drop i = d :: it.items.drop (i + 1) := by
        rw [List.drop_eq_getElem_cons hl]
        congr 1
        rw [List.getElem?_eq_getElem hl] at hd
        exact Option.some.inj hd
      rw [hdrop] at h2
      unfold forL at h2
      refine .inr ⟨go, fun σ' H' => ∃ ρ' δ' lh', StR X.K ρ' H' δ' σ' ∧ LhOk X.K ρ' H' lh' ∧ Ext X.K ρ1 ρ' H1 H' ∧ it.ok lh' ∧ FinS X.K X.mg W ρ' H' De (forL it g b (it.items.drop (i + 1)) δ' lh'), fun σ' H' w => ⟨it.items.length - (i + 1), by omega, rfl, hl, w⟩, fun x H' y => ?_⟩
      obtain ⟨e3, ok3, r3⟩ := yl x H' y
      cases hg : g d δ2 lh2 with
      | none => rw [hg] at h2; exact h2.elim
      | some z =>
        obtain ⟨δ4, lh4⟩ := z
        rw [hg] at h2
        simp only at h2
        refine ⟨ρ2, d, δ2, lh2, r3, st2.mono e3, ok3, δ4, lh4, hg, fun σ4 ρ4 H4 e4 ok4 st4 => ⟨ρ4, δ4, lh4, st4, ok4, ?_⟩⟩
        have e24 := e3.trans e4
        have cont : ∀ {δ5 : DSt} {lh5 : LH}, FinS X.K X.mg W ρ2 H2 De (open Classical in if it.ok lh5 then forL it g b (it.items.drop (i + 1)) δ5 lh5 else none) → ∀ σ' ρ' H', Ext X.K ρ4 ρ' H4 H' → LhOk X.K ρ' H' lh5 → StR X.K ρ' H' δ5 σ' →
            ∃ ρ' δ' lh', StR X.K ρ' H' δ' σ' ∧ LhOk X.K ρ' H' lh' ∧ Ext X.K ρ1 ρ' H1 H' ∧ it.ok lh' ∧ FinS X.K X.mg W ρ' H' De (forL it g b (it.items.drop (i + 1)) δ' lh') := fun {δ5 lh5} q σ' ρ' H' e' ok' st' => by
          by_cases hit : it.ok lh5
          · rw [if_pos hit] at q
            exact ⟨ρ', δ5, lh5, st', ok', (e2.trans e24).trans e', hit, FinS.mono q (e24.trans e')⟩
          · rw [if_neg hit] at q
            exact q.elim
        generalize b δ4 lh4 = rb at h2 ⊢
        match rb, h2 with
        | some (.nx δ5 h5), h2 => exact fun σ' ρ' H' e' ok' st' => cont h2 σ' ρ' H' e' ok' st'
        | some (.ct δ5 h5), h2 => exact fun σ' ρ' H' e' ok' st' => cont h2 σ' ρ' H' e' ok' st'
        | some (.bk δ5 h5), h2 => exact (show FinS X.K X.mg W ρ2 H2 De (some (.nx δ5 h5)) from h2).mono e24
        | some (.rt d5 h5), h2 => exact (show FinS X.K X.mg W ρ2 H2 De (some (.rt d5 h5)) from h2).mono e24
        | some (.ex x5 δ5 h5), h2 => exact (show FinS X.K X.mg W ρ2 H2 De (some (.ex x5 δ5 h5)) from h2).mono e24
    · have hi3 : i = it.items.length := by omega
      subst hi3
      rw [List.drop_length] at h2
      exact .inl ⟨B, h2 σ2 ρ2 H2 Ext.refl ok2 st2⟩⟩

/-! ### a list, a tuple, a text -/
def seqOf (d : D) (h : LH) : Option ItD := match d with
  | .tup ds => some ⟨ds, []⟩
  | .ref i => match h[i]? with
    | some (.lst ds) => some ⟨ds, [(i, .lst ds)]⟩
    | some (.rls ds) => some ⟨ds, [(i, .rls ds)]⟩
    | _ => none
  | .str x => some ⟨x.cps.toList.map fun c => .str ⟨#[c]⟩, []⟩
  | _ => none
def ri {α : Type} (o : Option α) (h : LH) : Option (R α) := match o with | none => none | some b => some (.ok b h)
@[simp] theorem ri_some {α : Type} (b : α) (h : LH) : ri (some b) h = some (.ok b h) := rfl
@[simp] theorem ri_none {α : Type} (h : LH) : ri (none : Option α) h = none := rfl
def iSeq (m : EM) : IM := fun δ h => bnd (m δ h) fun d h1 => ri (seqOf d h1) h1
theorem itok_tup {K : PySem.W.Frag} {ρ : List Addr} {H : Hp} {ds : List D} {a : Addr} {vs : List V} (hs : SqT K H a vs) (hr : Reps K ρ H ds vs) : ItOk K ρ H ⟨ds, []⟩ (Itt K a) := fun ρ' H' lh e ok _ => by
  have hs' := e.tupT _ _ hs
  have hr' := Reps.mono e _ _ hr
  refine ⟨fun i d hd => ?_, vs, hs', by rw [← hr.length]; exact Nat.le_refl _⟩
  obtain ⟨v, hv, rv⟩ := hr'.get hd
  refine ⟨⟨vs, v, hs', hv⟩, fun x H2 y => ?_⟩
  obtain ⟨rfl, q⟩ := y
  have := q vs hs'
  rw [hv] at this
  cases this
  exact ⟨Ext.refl, ok, rv⟩
theorem itok_list {K : PySem.W.Frag} {ρ : List Addr} {H : Hp} {ds : List D} {i : Nat} {a : Addr} {o : LO} (ha : ρ[i]? = some a) (ho : o = .lst ds ∨ o = .rls ds) : ItOk K ρ H ⟨ds, [(i, o)]⟩ (Itl K a) := fun ρ' H' lh e ok hit => by
  have hi := hit i o (List.mem_singleton.mpr rfl)
  have ob := ok.at_ i a o (e.get ha) hi
  obtain ⟨vs, hs, hr⟩ : ∃ vs, SqL K H' a vs ∧ Reps K ρ' H' ds vs := by
    rcases ho with rfl | rfl
    · obtain ⟨vs, q, r⟩ := ob
      exact ⟨vs, .inl (.inl q), r⟩
    · obtain ⟨vs, q, r⟩ := ob
      exact ⟨vs, q.sq, r⟩
  refine ⟨fun i d hd => ?_, vs, hs, by rw [← hr.length]; exact Nat.le_refl _⟩
  obtain ⟨v, hv, rv⟩ := hr.get hd
  refine ⟨⟨vs, v, hs, hv⟩, fun x H2 y => ?_⟩
  obtain ⟨rfl, q⟩ := y
  have := q vs hs
  rw [hv] at this
  cases this
  exact ⟨Ext.refl, ok, rv⟩
theorem itok_str {K : PySem.W.Frag} {ρ : List Addr} {H : Hp} {x : Str} : ItOk K ρ H ⟨x.cps.toList.map fun c => .str ⟨#[c]⟩, []⟩ (Its x) := fun ρ' H' lh e ok _ => by
  refine ⟨fun i d hd => ?_, by show x.cps.size ≤ _; simp⟩
  have hl : i < x.cps.size := by
    have := (List.getElem?_eq_some_iff.mp hd).1
    simpa using this
  refine ⟨hl, fun v H2 y => ?_⟩
  obtain ⟨rfl, c, hc, rfl⟩ := y
  refine ⟨Ext.refl, ok, ?_⟩
  have : d = .str ⟨#[c]⟩ := by
    rw [List.getElem?_map] at hd
    have h2 : x.cps.toList[i]? = some c := by simpa using hc
    rw [h2] at hd
    exact (Option.some.inj hd).symm
  subst this
  rfl
/-- what seqOf says of a value, in the layer's words -/
def iAny (K : PySem.W.Frag) (te : TE) : TI := fun σ H R => te σ H fun x H1 => (∃ a, x = .ref a ∧ (∃ xs, SqL K H1 a xs) ∧ R (Itl K a) H1) ∨ (∃ a, x = .ref a ∧ (∃ xs, SqT K H1 a xs) ∧ R (Itt K a) H1) ∨ ∃ y, x = .str y ∧ R (Its y) H1
theorem pi_any {tg l : Expr} {tl : TE} (hl : PE X l tl) : PI X tg l (iAny X.K tl) := by
  refine ⟨fun pins s σ H R I h => ?_⟩
  refine thn (hl.run pins s σ H _ I h) fun v s1 ⟨x, H1, I1, r1, q1⟩ => ?_
  rcases q1 with ⟨a, e, ⟨xs, hq⟩, q⟩ | ⟨a, e, ⟨xs, hq⟩, q⟩ | ⟨y, e, q⟩
  · subst e
    cases r1
    obtain ⟨its, rv, p, hz⟩ := I1.list hq
    exact wpAny_pyIter_list p.isList (pi_one (tk := s1.toks) I1 _ (turn_list a _) ⟨_, Heap.get?_push_size _ rfl, rfl, rfl⟩ q)
  · subst e
    cases r1
    obtain ⟨its, rv, p, hz⟩ := I1.tuple hq
    exact wpAny_pyIter_tuple (show s1.heap.IsTuple a its.toArray from p) (pi_one (tk := s1.toks) I1 _ (turn_tuple a _) ⟨_, Heap.get?_push_size _ rfl, rfl, rfl⟩ q)
  · subst e
    obtain ⟨t, rfl⟩ := r1
    cases ha : y.cps.all (· < 128)
    · exact wpAny_pyIter_wide ha (pi_one (tk := s1.toks) I1 _ (turn_str _ y t "str_iterator" (.inr rfl)) ⟨_, Heap.get?_push_size _ rfl, rfl, rfl⟩ q)
    · exact wpAny_pyIter_ascii ha (pi_one (tk := s1.toks) I1 _ (turn_str _ y t "str_ascii_iterator" (.inl rfl)) ⟨_, Heap.get?_push_size _ rfl, rfl, rfl⟩ q)
theorem _root_.L2.PI.wk {tg e : Expr} {t t' : TI} (h : PI X tg e t) (k : ∀ σ H R, t' σ H R → t σ H R) : PI X tg e t' := ⟨fun pins s σ H R I q => h.run pins s σ H R I (k σ H R q)⟩
theorem ii_seq {tg e : Expr} {m : EM} (he : IE X W e m) : II X W tg e (iSeq m) :=
  (pi_any he).wk fun σ H R ⟨ρ, δ, lh, st, ok, h⟩ => ⟨ρ, δ, lh, st, ok, (Fin.bnd h).imp fun d lh1 ρ1 H1 e1 ok1 h1 v r1 => by
    cases d with
    | tup ds =>
      obtain ⟨a, vs, rfl, hs, hr⟩ := r1
      exact .inr (.inl ⟨a, rfl, ⟨vs, hs.sq⟩, h1 ρ1 H1 Ext.refl ok1 _ (fun _ _ z => nomatch z) (itok_tup hs.sq hr)⟩)
    | str x =>
      cases r1
      exact .inr (.inr ⟨x, rfl, h1 ρ1 H1 Ext.refl ok1 _ (fun _ _ z => nomatch z) itok_str⟩)
    | ref i =>
      unfold seqOf at h1
      simp only at h1
      split at h1
      · rename_i ds e
        obtain ⟨a, rfl, ha, vs, hv, hr⟩ := ok1.obj r1 e
        exact .inl ⟨a, rfl, ⟨vs, .inl (.inl hv)⟩, h1 ρ1 H1 Ext.refl ok1 _ (fun i o z => by rw [List.mem_singleton] at z; cases z; exact e) (itok_list ha (.inl rfl))⟩
      · rename_i ds e
        obtain ⟨a, rfl, ha, vs, hv, hr⟩ := ok1.obj r1 e
        exact .inl ⟨a, rfl, ⟨vs, hv.sq⟩, h1 ρ1 H1 Ext.refl ok1 _ (fun i o z => by rw [List.mem_singleton] at z; cases z; exact e) (itok_list ha (.inr rfl))⟩
      · exact h1.elim
    | _ => exact h1.elim⟩
/-- range(n), range(a, b) -/
def rgD (a b : Int) : List D := (List.range (b - a).toNat).map fun k => .int (a + (k : Nat))
def inR (n : Int) : Prop := -(2 ^ 62) ≤ n ∧ n < 2 ^ 62
instance (n : Int) : Decidable (inR n) := by unfold inR; exact inferInstance
def iRng (a : AM) : IM := fun δ h => bnd (a δ h) fun ds h1 => match ds with
  | [.int n] => if inR n then some (.ok ⟨rgD 0 n, []⟩ h1) else none
  | [.int i, .int j] => if inR i ∧ inR j then some (.ok ⟨rgD i j, []⟩ h1) else none
  | _ => none
theorem rgD_get {a b : Int} {i : Nat} {d : D} (h : (rgD a b)[i]? = some d) : i < (b - a).toNat ∧ d = .int (a + i) := by
  unfold rgD at h
  rw [List.getElem?_map] at h
  by_cases hl : i < (b - a).toNat
  · rw [List.getElem?_range hl] at h
    exact ⟨hl, (Option.some.inj h).symm⟩
  · rw [List.getElem?_eq_none (by simpa using Nat.le_of_not_lt hl)] at h
    cases h
theorem itok_rng {K : PySem.W.Frag} {ρ : List Addr} {H : Hp} {a b : Int} : ItOk K ρ H ⟨rgD a b, []⟩ (Itr a (b - a).toNat) := fun ρ' H' lh e ok _ => by
  refine ⟨fun i d hd => ?_, by show (b - a).toNat ≤ _; simp [rgD]⟩
  obtain ⟨hl, rfl⟩ := rgD_get hd
  refine ⟨hl, fun v H2 y => ?_⟩
  obtain ⟨rfl, rfl⟩ := y
  exact ⟨Ext.refl, ok, rfl⟩
theorem ii_rng1 {tg a : Expr} {p pos : Pos} {m : AM} (ha : IA X W [a] m) (hm : X.mg "range" = none) (hg : Gl X "range" := by rfl) (hs : starEach [a] X.env = [(false, eval a X.env)] := by rfl) : II X W tg (.Call (.Name "range" p) [a] [] pos) (iRng (fun δ h => bnd (m δ h) fun ds h1 => if ds.length = 1 then some (.ok ds h1) else none)) :=
  (pi_range1 hg hm ha hs).wk fun σ H R ⟨ρ, δ, lh, st, ok, h⟩ => by
    refine ⟨ρ, δ, lh, st, ok, (Fin.bnd (Fin.bnd h)).imp fun ds lh1 ρ1 H1 e1 ok1 h1 vs r1 => ?_⟩
    by_cases hl : ds.length = 1
    · rw [if_pos hl] at h1
      have h1' := h1 ρ1 H1 Ext.refl ok1
      match ds, hl, r1, h1' with
      | [.int n], _, r1, h1' =>
        obtain ⟨v, r, rfl, rv, rn⟩ := r1
        cases rn
        cases rv
        by_cases hn : inR n
        · simp only [if_pos hn] at h1'
          exact ⟨n, rfl, hn.1, hn.2, h1' ρ1 H1 Ext.refl ok1 _ (fun _ _ z => nomatch z) (by have := itok_rng (K := X.K) (ρ := ρ1) (H := H1) (a := 0) (b := n); simpa using this)⟩
        · simp only [if_neg hn] at h1'
          exact h1'.elim
      | [.non], _, _, h1' => exact h1'.elim
      | [.bl _], _, _, h1' => exact h1'.elim
      | [.str _], _, _, h1' => exact h1'.elim
      | [.tup _], _, _, h1' => exact h1'.elim
      | [.ref _], _, _, h1' => exact h1'.elim
      | [.raw _], _, _, h1' => exact h1'.elim
    · rw [if_neg hl] at h1
      exact h1.elim
end
end DL

/-! DL5: list comprehensions; defs and their calls; raise, try -/
namespace DL
open PySem PySem.Spec PyProof.Rows L2

/-! ### list comprehensions -/
def wipeD (δ : DSt) : List Nat → DSt
  | [] => δ
  | v :: vs => (wipeD δ vs).set v none
theorem StR.wipe {K : PySem.W.Frag} {ρ : List Addr} {H : Hp} {δ : DSt} {σ : L2.St} (st : StR K ρ H δ σ) : ∀ vs : List Nat, StR K ρ H (wipeD δ vs) (L2.wipe σ vs)
  | [] => st
  | v :: vs => by
    have ih := StR.wipe st vs
    refine ⟨by simp [wipeD, L2.wipe, ih.1], fun i d hi => ?_⟩
    unfold wipeD at hi
    unfold L2.wipe
    by_cases e : i = v
    · subst e
      by_cases hl : i < (wipeD δ vs).length
      · rw [List.getElem?_set_self hl] at hi
        cases hi
      · rw [List.getElem?_eq_none (by simpa using Nat.le_of_not_lt hl)] at hi
        cases hi
    · rw [List.getElem?_set_ne (Ne.symm e)] at hi ⊢
      exact ih.2 i d hi
/-- the list at n grows -/
def growL (n : Nat) (y : D) (h : LH) : Option LH := match h[n]? with
  | some (.lst acc) => if acc.length < sizeLine then some (h.set n (.lst (acc ++ [y]))) else none
  | _ => none
open Classical in
noncomputable def compL (it : ItD) (n : Nat) (g : GM) (t : TM) (e : EM) (δ : DSt) : List D → LH → Option LH
  | [], h => some h
  | d :: ds, h => match g d δ h with
    | none => none
    | some (δ1, h1) => match t δ1 h1 with
      | some (.ok true h2) => (match e δ1 h2 with
        | some (.ok y h3) => (match growL n y h3 with
          | some h4 => if it.ok h4 then compL it n g t e δ ds h4 else none
          | none => none)
        | _ => none)
      | some (.ok false h2) => if it.ok h2 then compL it n g t e δ ds h2 else none
      | _ => none
noncomputable def eComp (m : IM) (own : List Nat) (g : GM) (t : TM) (e : EM) : EM := fun δ h => bnd (m δ h) fun it h1 =>
  match compL it h1.length g t e (wipeD δ own) it.items (h1 ++ [.lst []]) with
  | none => none
  | some h2 => some (.ok (.ref h1.length) h2)
def tTrue : TM := fun _ h => some (.ok true h)
abbrev W0 : WX := fun _ _ _ _ => False
section
variable {X : Cx} {W : WX} {pos : Pos}
theorem Cd.blk (c : Cd X W) (s : Shared) (H : Hp) (scope : Scope) (env : Env) (fp : List Addr) : Cd (X.blk s H scope env fp) W0 := ⟨takes0, PassesOwn.never, c.calm, c.nd⟩
theorem LhOk.grow1 {K : PySem.W.Frag} {ρ : List Addr} {H : Hp} {h h4 : LH} {n : Nat} {a : Addr} {y : D} {v : V} (ok : LhOk K ρ H h) (ha : ρ[n]? = some a) (r : Rep K ρ H y v) (g : growL n y h = some h4) :
    ∃ acc, H a = some (.lst acc) ∧ acc.length < sizeLine ∧ Ext K ρ ρ H (upd H a (.lst (acc ++ [v]))) ∧ LhOk K ρ (upd H a (.lst (acc ++ [v]))) h4 := by
  unfold growL at g
  split at g
  · rename_i acc e
    split at g
    · rename_i hz
      cases g
      obtain ⟨vs, hv, hr⟩ := ok.at_ n a _ ha e
      have mu : Mut (H a) := by rw [hv]; trivial
      refine ⟨vs, hv, by rw [← hr.length]; exact hz, Ext.mut mu, ok.put ha e trivial ⟨vs ++ [v], upd_same, ?_⟩⟩
      exact Reps.mono (Ext.mut mu) _ _ (hr.append (Reps.one r))
    · cases g
  · cases g
/-- every target of a comprehension stores own names alone -/
theorem lift_comp {K : PySem.W.Frag} {mg : Str → Option Value} {m : IM} {own : List Nat} {g : GM} {t : TM} {e : EM} {σ : L2.St} {H : Hp} {Q : VK}
    {tg : TG} (htg : ∀ v H1 (Qg : L2.St → Hp → Prop), liftG K g v (L2.wipe σ own) H1 Qg → tg v (L2.wipe σ own) H1 fun σ2 H2 => L2.wipe σ2 own = L2.wipe σ own ∧ Qg σ2 H2)
    (h : liftE K mg W (eComp m own g t e) σ H Q) : tLc (liftI K mg W m) tg (liftT K mg W0 t) (liftE K mg W0 e) own σ H Q := by
  obtain ⟨ρ, δ, lh, st, ok, h⟩ := h
  refine ⟨ρ, δ, lh, st, ok, (Fin.bnd h).imp fun it lh1 ρ1 H1 e1 ok1 h1 J i1 itok D hD => ?_⟩
  have okD : LhOk K (ρ1 ++ [D]) (upd H1 D (.lst [])) (lh1 ++ [.lst []]) := ok1.push hD ⟨[], upd_same, rfl⟩
  have exD : Ext K ρ1 (ρ1 ++ [D]) H1 (upd H1 D (.lst [])) := Ext.newR hD
  have itokD : it.ok (lh1 ++ [.lst []]) := fun i o q => by
    have z := i1 i o q
    rw [List.getElem?_append_left (List.getElem?_eq_some_iff.mp z).1]
    exact z
  have hDn : (ρ1 ++ [D])[lh1.length]? = some D := by rw [← ok1.len]; simp
  have stw := ((st.mono e1).mono exD).wipe own
  have h1' : ∃ h2, compL it lh1.length g t e (wipeD δ own) it.items (lh1 ++ [.lst []]) = some h2 ∧ ∀ ρ' H', Ext K ρ1 ρ' H1 H' → LhOk K ρ' H' h2 → ∀ v, Rep K ρ' H' (.ref lh1.length) v → Q v H' := by
    cases q : compL it lh1.length g t e (wipeD δ own) it.items (lh1 ++ [.lst []]) with
    | none => rw [q] at h1; exact h1.elim
    | some h2 => rw [q] at h1; exact ⟨h2, rfl, h1⟩
  obtain ⟨h2, hc, hq⟩ := h1'
  refine ⟨fun i k H' => k = it.items.length - i ∧ i ≤ it.items.length ∧ ∃ ρ' lh', LhOk K ρ' H' lh' ∧ Ext K (ρ1 ++ [D]) ρ' (upd H1 D (.lst [])) H' ∧ it.ok lh' ∧ compL it lh1.length g t e (wipeD δ own) (it.items.drop i) lh' = some h2,
    ⟨it.items.length, by simp, Nat.zero_le _, ρ1 ++ [D], _, okD, Ext.refl, itokD, by simpa using hc⟩, ?_⟩
  rintro i k H2 ⟨hk, hi2, ρ2, lh2, ok2, e2, i2, c2⟩
  obtain ⟨A, B⟩ := itok ρ2 H2 lh2 (exD.trans e2) ok2 i2
  by_cases hl : i < it.items.length
  · obtain ⟨d, hd⟩ : ∃ d, it.items[i]? = some d := ⟨_, List.getElem?_eq_getElem hl⟩
    obtain ⟨go, yl⟩ := A i d hd
    have hdrop : it.items.drop i = d :: it.items.drop (i + 1) := by
      rw [List.drop_eq_getElem_cons hl]
      congr 1
      rw [List.getElem?_eq_getElem hl] at hd
      exact Option.some.inj hd
    rw [hdrop] at c2
    unfold compL at c2
    refine .inr ⟨go, fun H' => ∃ ρ' lh', LhOk K ρ' H' lh' ∧ Ext K (ρ1 ++ [D]) ρ' (upd H1 D (.lst [])) H' ∧ it.ok lh' ∧ compL it lh1.length g t e (wipeD δ own) (it.items.drop (i + 1)) lh' = some h2, fun H' w => ⟨it.items.length - (i + 1), by omega, rfl, hl, w⟩, fun x H' y => ?_⟩
    obtain ⟨e3, ok3, r3⟩ := yl x H' y
    cases hg : g d (wipeD δ own) lh2 with
    | none => rw [hg] at c2; cases c2
    | some z =>
      obtain ⟨δ4, lh4⟩ := z
      rw [hg] at c2
      simp only at c2
      refine htg x H' _ ⟨ρ2, d, wipeD δ own, lh2, r3, (stw.mono e2).mono e3, ok3, δ4, lh4, hg, fun σ4 ρ4 H4 e4 ok4 st4 => ⟨ρ4, δ4, lh4, st4, ok4, ?_⟩⟩
      have e24 := (e2.trans e3).trans e4
      cases ht : t δ4 lh4 with
      | none => rw [ht] at c2; cases c2
      | some rt =>
        rw [ht] at c2
        cases rt with
        | exc x5 h5 => cases c2
        | ok b lh5 =>
          intro ρ5 H5 e5 ok5
          cases b with
          | false =>
            simp only at c2
            refine iteF ?_
            by_cases hit : it.ok lh5
            · rw [if_pos hit] at c2
              exact ⟨ρ5, lh5, ok5, e24.trans e5, hit, c2⟩
            · rw [if_neg hit] at c2
              cases c2
          | true =>
            simp only at c2
            refine iteT ⟨ρ5, δ4, lh5, st4.mono e5, ok5, ?_⟩
            cases he : e δ4 lh5 with
            | none => rw [he] at c2; cases c2
            | some re =>
              rw [he] at c2
              cases re with
              | exc x6 h6 => cases c2
              | ok yv lh6 =>
                intro ρ6 H6 e6 ok6 v6 r6
                simp only at c2
                cases hgr : growL lh1.length yv lh6 with
                | none => rw [hgr] at c2; cases c2
                | some lh7 =>
                  rw [hgr] at c2
                  simp only at c2
                  have e26 := (e24.trans e5).trans e6
                  obtain ⟨acc, a1, a2, a3, a4⟩ := ok6.grow1 (e26.get hDn) r6 hgr
                  refine ⟨acc, a1, a2, ?_⟩
                  by_cases hit : it.ok lh7
                  · rw [if_pos hit] at c2
                    exact ⟨ρ6, lh7, a4, e26.trans a3, hit, c2⟩
                  · rw [if_neg hit] at c2
                    cases c2
  · have hi3 : i = it.items.length := by omega
    subst hi3
    rw [List.drop_length] at c2
    cases c2
    exact .inl ⟨B, hq ρ2 H2 (exD.trans e2) ok2 _ ⟨D, rfl, e2.get hDn⟩⟩
end

/-! ### targets as data -/
inductive Tg where
  | nm (i : Nat) | tup (ts : List Tg)
mutual
def Tg.g : Tg → GM
  | .nm i => gN i
  | .tup ts => gTup (Tg.gs ts)
def Tg.gs : List Tg → List GM
  | [] => []
  | t :: ts => t.g :: Tg.gs ts
end
mutual
def Tg.t (K : PySem.W.Frag) : Tg → TG
  | .nm i => gName i
  | .tup ts => L2.gTup K ts.length (Tg.ts K ts)
def Tg.ts (K : PySem.W.Frag) : List Tg → TGs
  | [] => gNil
  | t :: ts => gCons (t.t K) (Tg.ts K ts)
end
mutual
def Tg.slots : Tg → List Nat
  | .nm i => [i]
  | .tup ts => Tg.slotsL ts
def Tg.slotsL : List Tg → List Nat
  | [] => []
  | t :: ts => t.slots ++ Tg.slotsL ts
end
theorem Tg.gs_len : ∀ ts : List Tg, (Tg.gs ts).length = ts.length
  | [] => rfl
  | _ :: ts => by simp [Tg.gs, Tg.gs_len ts]
theorem wipe_set {σ : L2.St} {i : Nat} {x : Option V} : ∀ {own : List Nat}, i ∈ own → L2.wipe (σ.set i x) own = L2.wipe σ own
  | [], h => by cases h
  | v :: vs, h => by
    unfold L2.wipe
    by_cases e : i ∈ vs
    · rw [wipe_set e]
    · have hv : i = v := by
        rcases List.mem_cons.mp h with q | q
        · exact q
        · exact absurd q e
      subst hv
      have go : ∀ {vs : List Nat}, i ∉ vs → L2.wipe (σ.set i x) vs = (L2.wipe σ vs).set i x := by
        intro vs
        induction vs with
        | nil => intro _; rfl
        | cons w ws ih =>
          intro n
          simp only [List.mem_cons, not_or] at n
          unfold L2.wipe
          rw [ih n.2, List.set_comm _ _ n.1]
      rw [go e, List.set_set]
theorem wipe_wipe {σ : L2.St} : ∀ {own : List Nat}, L2.wipe (L2.wipe σ own) own = L2.wipe σ own := by
  intro own
  have go : ∀ (us vs : List Nat), (∀ v ∈ us, v ∈ vs) → ∀ τ : L2.St, L2.wipe (L2.wipe τ us) vs = L2.wipe τ vs := by
    intro us
    induction us with
    | nil => intro vs _ τ; rfl
    | cons u us ih =>
      intro vs h τ
      show L2.wipe ((L2.wipe τ us).set u none) vs = L2.wipe τ vs
      rw [wipe_set (h u List.mem_cons_self), ih vs fun v hv => h v (List.mem_cons_of_mem _ hv)]
  exact go own own (fun _ h => h) σ
section
variable {K : PySem.W.Frag} {own : List Nat}
mutual
theorem Tg.stay : ∀ (T : Tg) (h : ∀ i ∈ T.slots, i ∈ own) (v : V) (σ : L2.St) (H : Hp) (Q : L2.St → Hp → Prop), liftG K T.g v σ H Q → T.t K v σ H fun σ2 H2 => L2.wipe σ2 own = L2.wipe σ own ∧ Q σ2 H2
  | .nm i, h, v, σ, H, Q, q => by
    obtain ⟨ρ, d, δ, lh, r, st, ok, δ', lh', e, q⟩ := q
    cases e
    exact ⟨wipe_set (h i List.mem_cons_self), q _ ρ H Ext.refl ok (st.set r)⟩
  | .tup ts, h, v, σ, H, Q, q => by
    obtain ⟨ρ, d, δ, lh, r, st, ok, δ', lh', e, q⟩ := q
    cases d with
    | tup ds =>
      obtain ⟨a, vs, rfl, hs, hr⟩ := r
      exact ⟨a, vs, rfl, hs.sq, by rw [← hr.length, gTupL_len e, Tg.gs_len], Tg.stayL ts h vs σ H Q ⟨ρ, ds, δ, lh, hr, st, ok, δ', lh', e, q⟩⟩
    | raw ds =>
      obtain ⟨a, vs, rfl, hs, hr⟩ := r
      exact ⟨a, vs, rfl, hs, by rw [← hr.length, gTupL_len e, Tg.gs_len], Tg.stayL ts h vs σ H Q ⟨ρ, ds, δ, lh, hr, st, ok, δ', lh', e, q⟩⟩
    | _ => cases e
theorem Tg.stayL : ∀ (ts : List Tg) (h : ∀ i ∈ Tg.slotsL ts, i ∈ own) (vs : List V) (σ : L2.St) (H : Hp) (Q : L2.St → Hp → Prop), liftGs K (Tg.gs ts) vs σ H Q → Tg.ts K ts vs σ H fun σ2 H2 => L2.wipe σ2 own = L2.wipe σ own ∧ Q σ2 H2
  | [], h, vs, σ, H, Q, q => by
    obtain ⟨ρ, ds, δ, lh, r1, st, ok, δ', lh', e, q⟩ := q
    cases ds with
    | nil => cases r1; cases e; exact ⟨rfl, rfl, q σ ρ H Ext.refl ok st⟩
    | cons d ds => cases e
  | t :: ts, h, vs, σ, H, Q, q => by
    obtain ⟨ρ, ds, δ, lh, r1, st, ok, δ', lh', e, q⟩ := q
    cases ds with
    | nil => cases e
    | cons d ds =>
      obtain ⟨v, vr, rfl, rv, rr⟩ := r1
      simp only [Tg.gs, gTupL] at e
      cases q1 : t.g d δ lh with
      | none => rw [q1] at e; cases e
      | some z =>
        obtain ⟨δ1, lh1⟩ := z
        rw [q1] at e
        refine ⟨v, vr, rfl, ?_⟩
        have H1 := Tg.stay t (fun i hi => h i (List.mem_append_left _ hi)) v σ H (fun σ1 H1 => Tg.ts K ts vr σ1 H1 fun σ2 H2 => L2.wipe σ2 own = L2.wipe σ1 own ∧ Q σ2 H2)
          ⟨ρ, d, δ, lh, rv, st, ok, δ1, lh1, q1, fun σ1 ρ1 H1 e1 ok1 st1 => Tg.stayL ts (fun i hi => h i (List.mem_append_right _ hi)) vr σ1 H1 Q
            ⟨ρ1, ds, δ1, lh1, Reps.mono e1 _ _ rr, st1, ok1, δ', lh', e, fun σ2 ρ2 H2 e2 ok2 st2 => q σ2 ρ2 H2 (e1.trans e2) ok2 st2⟩⟩
        refine Tg.tImp t _ _ _ _ _ H1 fun σ1 H1 ⟨w1, q1⟩ => Tg.tsImp ts _ _ _ _ _ q1 fun σ2 H2 ⟨w2, q2⟩ => ⟨w2.trans w1, q2⟩
theorem Tg.tImp : ∀ (T : Tg) (v : V) (σ : L2.St) (H : Hp) (Q Q' : L2.St → Hp → Prop), T.t K v σ H Q → (∀ σ2 H2, Q σ2 H2 → Q' σ2 H2) → T.t K v σ H Q'
  | .nm i, v, σ, H, Q, Q', h, k => k _ _ h
  | .tup ts, v, σ, H, Q, Q', h, k => by
    obtain ⟨a, xs, e, hs, hl, h⟩ := h
    exact ⟨a, xs, e, hs, hl, Tg.tsImp ts _ _ _ _ _ h k⟩
theorem Tg.tsImp : ∀ (ts : List Tg) (vs : List V) (σ : L2.St) (H : Hp) (Q Q' : L2.St → Hp → Prop), Tg.ts K ts vs σ H Q → (∀ σ2 H2, Q σ2 H2 → Q' σ2 H2) → Tg.ts K ts vs σ H Q'
  | [], vs, σ, H, Q, Q', h, k => ⟨h.1, k _ _ h.2⟩
  | t :: ts, vs, σ, H, Q, Q', h, k => by
    obtain ⟨v, r, e, h⟩ := h
    exact ⟨v, r, e, Tg.tImp t _ _ _ _ _ h fun σ2 H2 q => Tg.tsImp ts _ _ _ _ _ q k⟩
end
end
section
variable {X : Cx} {W : WX} {pos : Pos}
abbrev IGt (X : Cx) (e : Expr) (T : Tg) : Prop := PG X e (T.t X.K)
abbrev IGts (X : Cx) (es : List Expr) (Ts : List Tg) : Prop := PGs X es (Tg.ts X.K Ts)
theorem gt_n (i : Nat) {x : Str} (nd : X.N.Nodup) (hi : X.N[i]? = some x := by rfl) (hx : Loc X.env.scope x := by first | exact Or.inl rfl | exact Or.inr rfl) (hf : X.fn x = true ∨ X.env.scope.names.lookup x = some .local := by first | exact .inl rfl | exact .inr rfl) : IGt X (.Name x pos) (.nm i) := pg_name nd hi hx hf
theorem gts_nil : IGts X [] [] := pgs_nil
theorem gts_cons {e : Expr} {es : List Expr} {T : Tg} {Ts : List Tg} (h : IGt X e T) (k : IGts X es Ts) (hs : (assignEach (e :: es) X.env).map (·.2) = assign e X.env :: (assignEach es X.env).map (·.2) := by rfl) : IGts X (e :: es) (T :: Ts) := pgs_cons h k hs
theorem gt_tup {es : List Expr} {k : Nat} {Ts : List Tg} (hc : X.calm = true) (h : IGts X es Ts) (hn : (assignEach es X.env).length = Ts.length := by rfl) (hst : (assignEach es X.env).findIdx? (·.1) = none := by rfl) : IGt X (.Tuple es k pos) (.tup Ts) := pg_tup hc h hn hst
/-- a target for a for, an assignment -/
theorem gt_g {e : Expr} {T : Tg} (h : IGt X e T) : IG X e T.g := h.wk fun v σ H Q q => Tg.tImp (own := []) T _ _ _ _ _ (Tg.stay (own := T.slots) T (fun _ h => h) v σ H Q q) fun _ _ z => z.2
abbrev ITs (X : Cx) (W : WX) (e : List Expr) (m : TM) : Prop := PTs X e (liftT X.K X.mg W m)
theorem its_nil : ITs X W [] tTrue := ⟨fun pins s σ H Q I ⟨ρ, δ, lh, st, ok, h⟩ => pts_nil.run pins s σ H Q I (h ρ H Ext.refl ok)⟩
theorem its_one {c : Expr} {t : TM} (h : IT X W c t) : ITs X W [c] t := pts_one h
/-- [elt for tg in iter if ..] -/
theorem i_comp {elt tg iter : Expr} {ifs : List Expr} {scope : Scope} (own : List (Str × Nat)) {m : IM} {T : Tg} {t : TM} {e : EM} (c : Cd X W) (hi : II X W tg iter m) (ok : BlkOk X.N X.env.scope scope own)
    (hg : ∀ (s : Shared) (H : Hp) (C : Addr) (cl : List (Str × Addr)) (fp : List Addr), PG (X.blk s H scope (compEnvC scope cl C X.env) fp) tg (T.t X.K))
    (ht : ∀ (s : Shared) (H : Hp) (C : Addr) (cl : List (Str × Addr)) (fp : List Addr), PTs (X.blk s H scope (compEnvC scope cl C X.env) fp) ifs (liftT X.K X.mg W0 t))
    (he : ∀ (s : Shared) (H : Hp) (C : Addr) (cl : List (Str × Addr)) (fp : List Addr), PE (X.blk s H scope (compEnvC scope cl C X.env) fp) elt (liftE X.K X.mg W0 e)) (hT : ∀ i ∈ T.slots, i ∈ own.map (·.2)) (hs : ∀ x, foldedSetIterable iter X.env x = pure x := by intro _; rfl) :
    IE X W (.ListComp elt [⟨tg, iter, ifs, 0⟩] scope pos) (eComp m (own.map (·.2)) T.g t e) :=
  (pe_lc c.calm c.nd hi ok hg ht he hs).wk fun σ H Q h => lift_comp (fun v H1 Qg q => by
    have z := Tg.stay (own := own.map (·.2)) T hT v _ H1 Qg q
    rw [wipe_wipe] at z
    exact z) h
/-- name = [..] -/
theorem is_setLc (i : Nat) {y : Str} {py spos : Pos} {elt tg iter : Expr} {ifs : List Expr} {scope : Scope} (own : List (Str × Nat)) {m : IM} {T : Tg} {t : TM} {e : EM} (c : Cd X W) (hi : II X W tg iter m) (ok : BlkOk X.N X.env.scope scope own)
    (hg : ∀ (s : Shared) (H : Hp) (C : Addr) (cl : List (Str × Addr)) (fp : List Addr), PG (X.blk s H scope (compEnvC scope cl C X.env) fp) tg (T.t X.K))
    (ht : ∀ (s : Shared) (H : Hp) (C : Addr) (cl : List (Str × Addr)) (fp : List Addr), PTs (X.blk s H scope (compEnvC scope cl C X.env) fp) ifs (liftT X.K X.mg W0 t))
    (he : ∀ (s : Shared) (H : Hp) (C : Addr) (cl : List (Str × Addr)) (fp : List Addr), PE (X.blk s H scope (compEnvC scope cl C X.env) fp) elt (liftE X.K X.mg W0 e)) (hT : ∀ i ∈ T.slots, i ∈ own.map (·.2))
    (hsw : swapsWith (.ListComp elt [⟨tg, iter, ifs, 0⟩] scope pos) (some (.Name y py)) spos.line X.env = pure true) (hy : X.N[i]? = some y := by rfl) (hyl : X.env.scope.names.lookup y = some .local := by rfl) (hs : ∀ x, foldedSetIterable iter X.env x = pure x := by intro _; rfl) :
    IS X W (.Assign [.Name y py] (.ListComp elt [⟨tg, iter, ifs, 0⟩] scope pos) spos) (sAsg (eComp m (own.map (·.2)) T.g t e) (gN i)) :=
  (ps_setLc c.calm c.nd hy hyl hsw hi ok hg ht he hs).wk fun De σ H h => by
    have h2 := lift_asg (K := X.K) (mg := X.mg) (W := W) (g := gN i) h
    refine lift_comp (W := W) (Q := fun v H1 => gName i v σ H1 De.nx) (fun v H1 Qg q => by
      have z := Tg.stay (own := own.map (·.2)) T hT v _ H1 Qg q
      rw [wipe_wipe] at z
      exact z) ?_
    obtain ⟨ρ, δ, lh, st, ok, h3⟩ := h2
    refine ⟨ρ, δ, lh, st, ok, h3.imp fun d lh1 ρ1 H1 e1 ok1 q v r => ?_⟩
    obtain ⟨ρ2, d2, δ2, lh2, r2, st2, ok2, δ3, lh3, e3, q3⟩ := q v r
    cases e3
    exact q3 _ ρ2 H1 Ext.refl ok2 (st2.set r2)
end
end DL

/-! DL6: defs and their calls, what a call leaves behind; built-ins by name; raise, try -/
namespace DL
open PySem PySem.Spec PyProof.Rows L2

/-! ### what is left behind a call: new objects that nothing names are forgotten -/
mutual
def D.cl (n : Nat) : D → Bool
  | .ref i => decide (i < n)
  | .tup ds => D.clL n ds
  | .raw ds => D.clL n ds
  | _ => true
def D.clL (n : Nat) : List D → Bool
  | [] => true
  | d :: ds => d.cl n && D.clL n ds
end
def LO.cl (n : Nat) : LO → Bool
  | .lst ds => D.clL n ds
  | .rls ds => D.clL n ds
  | .dic kvs => D.clL n (kvs.map (·.2))
section
variable {K : PySem.W.Frag} {ρ ρ' : List Addr} {H : Hp}
mutual
theorem Rep.cl : ∀ (d : D) (v : V), Rep K ρ H d v → d.cl ρ.length = true
  | .non, _, _ => rfl
  | .bl _, _, _ => rfl
  | .int _, _, _ => rfl
  | .str _, _, _ => rfl
  | .tup ds, v, h => by
    obtain ⟨a, vs, rfl, hs, hr⟩ := h
    exact Reps.cl ds vs hr
  | .raw ds, v, h => by
    obtain ⟨a, vs, rfl, hs, hr⟩ := h
    exact Reps.cl ds vs hr
  | .ref i, v, h => by
    obtain ⟨a, rfl, ha⟩ := h
    exact decide_eq_true (List.getElem?_eq_some_iff.mp ha).1
theorem Reps.cl : ∀ (ds : List D) (vs : List V), Reps K ρ H ds vs → D.clL ρ.length ds = true
  | [], _, _ => rfl
  | d :: ds, vs, h => by
    obtain ⟨v, r, rfl, h1, h2⟩ := h
    simp only [D.clL, Rep.cl d v h1, Reps.cl ds r h2, Bool.and_self]
end
mutual
theorem Rep.less (e : ∀ i, i < ρ.length → ρ'[i]? = ρ[i]?) : ∀ (d : D) (v : V), d.cl ρ.length = true → Rep K ρ' H d v → Rep K ρ H d v
  | .non, _, _, h => h
  | .bl _, _, _, h => h
  | .int _, _, _, h => h
  | .str _, _, _, h => h
  | .tup ds, v, c, h => by
    obtain ⟨a, vs, rfl, hs, hr⟩ := h
    exact ⟨a, vs, rfl, hs, Reps.less e ds vs c hr⟩
  | .raw ds, v, c, h => by
    obtain ⟨a, vs, rfl, hs, hr⟩ := h
    exact ⟨a, vs, rfl, hs, Reps.less e ds vs c hr⟩
  | .ref i, v, c, h => by
    obtain ⟨a, rfl, ha⟩ := h
    exact ⟨a, rfl, (e i (of_decide_eq_true c)).symm.trans ha⟩
theorem Reps.less (e : ∀ i, i < ρ.length → ρ'[i]? = ρ[i]?) : ∀ (ds : List D) (vs : List V), D.clL ρ.length ds = true → Reps K ρ' H ds vs → Reps K ρ H ds vs
  | [], _, _, h => h
  | d :: ds, vs, c, h => by
    obtain ⟨v, r, rfl, h1, h2⟩ := h
    simp only [D.clL, Bool.and_eq_true] at c
    exact ⟨v, r, rfl, Rep.less e d v c.1 h1, Reps.less e ds r c.2 h2⟩
end
theorem RepK.cl : ∀ (ds : List (Key × D)) (vs : List (Key × V)), RepK K ρ H ds vs → D.clL ρ.length (ds.map (·.2)) = true
  | [], _, _ => rfl
  | (k, d) :: ds, vs, h => by
    obtain ⟨v, r, rfl, h1, h2⟩ := h
    simp only [List.map_cons, D.clL, Rep.cl d v h1, RepK.cl ds r h2, Bool.and_self]
theorem RepK.less (e : ∀ i, i < ρ.length → ρ'[i]? = ρ[i]?) : ∀ (ds : List (Key × D)) (vs : List (Key × V)), D.clL ρ.length (ds.map (·.2)) = true → RepK K ρ' H ds vs → RepK K ρ H ds vs
  | [], _, _, h => h
  | (k, d) :: ds, vs, c, h => by
    obtain ⟨v, r, rfl, h1, h2⟩ := h
    simp only [List.map_cons, D.clL, Bool.and_eq_true] at c
    exact ⟨v, r, rfl, Rep.less e d v c.1 h1, RepK.less e ds r c.2 h2⟩
theorem ObR.cl {a : Addr} {o : LO} (h : ObR K ρ H a o) : o.cl ρ.length = true := by
  cases o with
  | lst ds => obtain ⟨vs, _, r⟩ := h; exact Reps.cl _ _ r
  | rls ds => obtain ⟨vs, _, r⟩ := h; exact Reps.cl _ _ r
  | dic kvs => obtain ⟨vs, _, r⟩ := h; exact RepK.cl _ _ r
theorem ObR.less (e : ∀ i, i < ρ.length → ρ'[i]? = ρ[i]?) {a : Addr} {o : LO} (c : o.cl ρ.length = true) (h : ObR K ρ' H a o) : ObR K ρ H a o := by
  cases o with
  | lst ds => obtain ⟨vs, q, r⟩ := h; exact ⟨vs, q, Reps.less e _ _ c r⟩
  | rls ds => obtain ⟨vs, q, r⟩ := h; exact ⟨vs, q, Reps.less e _ _ c r⟩
  | dic kvs => obtain ⟨vs, q, r⟩ := h; exact ⟨vs, q, RepK.less e _ _ c r⟩
end
/-- the objects that stood are as they stood, or name none of the new ones -/
def oldOk (lh lh' : LH) : Prop := lh.length ≤ lh'.length ∧ ∀ (i : Nat) (o : LO), i < lh.length → lh'[i]? = some o → lh[i]? = some o ∨ o.cl lh.length = true
def argCl (n : Nat) (e : XD) : Bool := match e.arg with | none => true | some (_, d) => d.cl n
open Classical in
noncomputable def gc (lh : LH) (r : Option (R D)) : Option (R D) := match r with
  | none => none
  | some (.ok d lh') => if d.cl lh.length = true ∧ oldOk lh lh' then some (.ok d (lh'.take lh.length)) else some (.ok d lh')
  | some (.exc e lh') => if argCl lh.length e = true ∧ oldOk lh lh' then some (.exc e (lh'.take lh.length)) else some (.exc e lh')
section
variable {K : PySem.W.Frag} {mg : Str → Option Value} {W : WX} {σ : L2.St} {ρ ρ' : List Addr} {H H' : Hp} {lh lh' : LH}
theorem LhOk.cut (ok : LhOk K ρ H lh) (e : Ext K ρ ρ' H H') (ok' : LhOk K ρ' H' lh') (o : oldOk lh lh') : LhOk K ρ H' (lh'.take lh.length) := by
  have hl := ok.len
  have es : ∀ i, i < ρ.length → ρ'[i]? = ρ[i]? := fun i hi => by
    obtain ⟨t, rfl⟩ := e.pre
    rw [List.getElem?_append_left hi]
  have tk : ∀ (i : Nat) (u : LO), (lh'.take lh.length)[i]? = some u → i < lh.length ∧ lh'[i]? = some u := fun i u h => by
    have hi := (List.getElem?_eq_some_iff.mp h).1
    rw [List.length_take] at hi
    rw [List.getElem?_take] at h
    split at h
    · rename_i hlt; exact ⟨hlt, h⟩
    · cases h
  refine ⟨by rw [List.length_take, hl, Nat.min_eq_left o.1], fun i j a u v h1 h2 h3 h4 m1 m2 => ?_, fun i a u h1 h2 => ?_⟩
  · obtain ⟨l1, q1⟩ := tk i u h3
    obtain ⟨l2, q2⟩ := tk j v h4
    exact ok'.inj i j a u v (e.get h1) (e.get h2) q1 q2 m1 m2
  · obtain ⟨l1, q1⟩ := tk i u h2
    refine (ok'.at_ i a u (e.get h1) q1).less es ?_
    rcases o.2 i u l1 q1 with z | z
    · exact (ok.at_ i a u h1 z).cl
    · rw [hl]; exact z
theorem Fin.gc {Q : VK} {r : Option (R D)} (ok : LhOk K ρ H lh) (h : Fin K mg W σ ρ H (gc lh r) fun d _ ρ' H' => ∀ v, Rep K ρ' H' d v → Q v H') : Fin K mg W σ ρ H r fun d _ ρ' H' => ∀ v, Rep K ρ' H' d v → Q v H' := by
  match r, h with
  | some (.ok d lh'), h =>
    intro ρ' H' e ok' v r
    unfold DL.gc at h
    simp only at h
    split at h
    · rename_i c
      have es : ∀ i, i < ρ.length → ρ'[i]? = ρ[i]? := fun i hi => by
        obtain ⟨t, rfl⟩ := e.pre
        rw [List.getElem?_append_left hi]
      exact h ρ H' ⟨⟨[], by simp⟩, e.tup, e.tupT⟩ (ok.cut e ok' c.2) v (Rep.less es d v (by rw [ok.len]; exact c.1) r)
    · exact h ρ' H' e ok' v r
  | some (.exc x lh'), h =>
    intro ρ' H' cls dx e ok' q
    unfold DL.gc at h
    simp only at h
    split at h
    · rename_i c
      have es : ∀ i, i < ρ.length → ρ'[i]? = ρ[i]? := fun i hi => by
        obtain ⟨t, rfl⟩ := e.pre
        rw [List.getElem?_append_left hi]
      refine h ρ H' cls dx ⟨⟨[], by simp⟩, e.tup, e.tupT⟩ (ok.cut e ok' c.2) ⟨q.1, fun f d hf => ?_⟩
      obtain ⟨dd, v, h1, h2, h3⟩ := q.2 f d hf
      refine ⟨dd, v, h1, h2, Rep.less es d v ?_ h3⟩
      have c1 := c.1
      unfold argCl at c1
      rw [hf] at c1
      rw [ok.len]
      exact c1
    · exact h ρ' H' cls dx e ok' q
end

/-! ### defs -/
def toR (r : Option SR) : Option (R D) := match r with
  | some (.nx _ h) => some (.ok .non h)
  | some (.rt d h) => some (.ok d h)
  | some (.ex e _ h) => some (.exc e h)
  | _ => none
@[simp] theorem toR_nx (δ : DSt) (h : LH) : toR (some (.nx δ h)) = some (.ok .non h) := rfl
@[simp] theorem toR_rt (d : D) (h : LH) : toR (some (.rt d h)) = some (.ok d h) := rfl
@[simp] theorem toR_ex (e : XD) (δ : DSt) (h : LH) : toR (some (.ex e δ h)) = some (.exc e h) := rfl
def initD (n : Nat) (ds : List D) : DSt := ds.map some ++ List.replicate (n - ds.length) none
/-- a def with n slots and a body -/
noncomputable def fnD (n : Nat) (m : SM) : FM := fun ds lh => gc lh (toR (m (initD n ds) lh))
def spD (K : PySem.W.Frag) (mg : Str → Option Value) (n : Nat) (F : FM) : Sp := fun vs H Q E => ∃ ρ ds lh, ds.length = n ∧ Reps K ρ H ds vs ∧ LhOk K ρ H lh ∧
  Fin K mg (fun cls d _ H => E cls d H) [] ρ H (F ds lh) fun d _ ρ' H' => ∀ v, Rep K ρ' H' d v → Q v H'
structure Dfn (P : Program) (w : World) (K : PySem.W.Frag) (mg : Str → Option Value) (base : Heap) (x : Str) (k : Nat) (ps : List Str) (F : FM) : Prop where
  ex : ∃ f fd, mg x = some (.ref f) ∧ PySem.W.keepIn K (.ref f) = true ∧ FnOk P w K mg base (L2.CX P w) k f fd ps (spD K mg ps.length F) ∧ Binds K fd ps []
theorem StR.init {K : PySem.W.Frag} {ρ : List Addr} {H : Hp} {N : List Str} {ds : List D} {vs : List V} (r : Reps K ρ H ds vs) : StR K ρ H (initD N.length ds) (L2.start N vs) := by
  have hl := r.length
  refine ⟨by simp [initD, L2.start, hl], fun i d hi => ?_⟩
  unfold initD at hi
  unfold L2.start
  by_cases h : i < ds.length
  · rw [List.getElem?_append_left (by simpa using h)] at hi
    rw [List.getElem?_append_left (by simpa [← hl] using h)]
    rw [List.getElem?_map] at hi ⊢
    cases q : ds[i]? with
    | none => rw [q] at hi; cases hi
    | some d' =>
      rw [q] at hi
      obtain ⟨v, hv, rv⟩ := r.get q
      cases hi
      exact ⟨v, by rw [hv]; rfl, rv⟩
  · rw [List.getElem?_append_right (by simpa using Nat.le_of_not_lt h)] at hi
    rw [List.getElem?_replicate] at hi
    split at hi <;> cases hi
section
variable {P : Program} {w : World} {K : PySem.W.Frag} {mg : Str → Option Value} {base : Heap}
theorem cd_of {N : List Str} {qual : Str} {scope : Scope} {f : Addr} {cd : Value} {A : Around} {outer : List Env} {s : Shared} {H : Hp} {E : XK} (nd : N.Nodup) :
    Cd (cxOf (L2.CX P w) P w K mg base N qual scope f cd A outer s H E) (fun cls d _ H => E cls d H) :=
  ⟨takes_of rfl rfl rfl rfl, passes_of rfl, rfl, nd⟩
theorem dfn_mk {x qual : Str} {st : Stmt} {f : Addr} {fd : FuncData} {N ps : List Str} {k : Nat} {m : SM} (F : Fun K x qual st f fd) (hm : mg x = some (.ref f)) (S : FnScope N ps (defScope st)) (hb : Binds K fd ps [])
    (body : ∀ (cdv : Value) (A : Around) (outer : List Env) (s : Shared) (H : Hp) (E : XK), Cd (cxOf (L2.CX P w) P w K mg base N qual (defScope st) f cdv A outer s H E) (fun cls d _ H => E cls d H) →
      Room k (A.deeper (envOfC qual (defScope st) s.heap.objs.size f cdv)) → ISs (cxOf (L2.CX P w) P w K mg base N qual (defScope st) f cdv A outer s H E) (fun cls d _ H => E cls d H) (defBody st) m) : Dfn P w K mg base x (k + 1) ps (fnD N.length m) := by
  refine ⟨f, fd, hm, F.kp, F.okX S (fun vs H Q E ⟨ρ, ds, lh, hl, r, _⟩ => r.length.symm.trans hl) (fun cdv A outer s H vs Q E hr h => ?_), hb⟩
  refine ⟨_, body cdv A outer s H E (cd_of S.nd) hr, ?_⟩
  obtain ⟨ρ, ds, lh, hl, r, ok, h⟩ := h
  have h2 := Fin.gc ok h
  refine ⟨ρ, initD N.length ds, lh, StR.init r, ok, ?_⟩
  generalize m (initD N.length ds) lh = rr at h2 ⊢
  match rr, h2 with
  | some (.nx δ h'), h2 => exact fun σ' ρ' H' e ok' st' => h2 ρ' H' e ok' V.non rfl
  | some (.rt d h'), h2 => exact fun v ρ' H' e ok' r' => h2 ρ' H' e ok' v r'
  | some (.ex x' δ h'), h2 => exact fun σ' ρ' H' cls dx e ok' st' q' => h2 ρ' H' cls dx e ok' q'
end
/-- f(e, ..) -/
def eF (n : Nat) (F : FM) (a : AM) : EM := fun δ h => bnd (a δ h) fun ds h1 => if ds.length = n then F ds h1 else none
section
variable {X : Cx} {W : WX} {pos : Pos} {e : Expr} {es : List Expr}
theorem i_call {x : Str} {p : Pos} {k k' : Nat} {ps : List Str} {F : FM} {a : AM} (c : Cd X W) (Df : Dfn X.prog X.w X.K X.mg X.base x k ps F) (hr : Room k' X.A) (ha : IA X W (e :: es) a) (hk : k ≤ k' := by decide) (hg : Gl X x := by rfl)
    (hdb : (x == ("__debug__" : Str)) = false := by decide) (he : starEach (e :: es) X.env = (false, eval e X.env) :: starEach es X.env := by rfl) (hpl : (backTo pos (starEach es X.env)).any (·.1) = false := by rfl) :
    IE X W (.Call (.Name x p) (e :: es) [] pos) (eF ps.length F a) := by
  obtain ⟨f, fd, hm, kp, ok, hb⟩ := Df.ex
  refine (pe_callS ok (hr.mono hk) hg hm kp hb (fun σ => passAt c.tk σ) ha hdb he hpl).wk fun σ H Q ⟨ρ, δ, lh, st, okh, h⟩ => ⟨ρ, δ, lh, st, okh, (Fin.bnd h).imp fun ds lh1 ρ1 H1 e1 ok1 h1 vs r1 => ?_⟩
  by_cases hl : ds.length = ps.length
  · rw [if_pos hl] at h1
    refine ⟨ρ1, ds, lh1, hl, r1, ok1, ?_⟩
    match q : F ds lh1, h1 with
    | some (.ok d h'), h1 => exact h1
    | some (.exc x' h'), h1 => exact fun ρ' H' cls dx e ok' q' => h1 ρ' H' cls dx e ok' q'
  · rw [if_neg hl] at h1
    exact h1.elim
/-- a built-in by its name, a built-in type -/
theorem i_bi {x : Str} {id : String} {p : Pos} {g : List D → LH → Option (D × LH)} {a : AM} (ho : CallR X (.builtin id) (cD X.K g)) (hm : X.mg x = none) (hv : bootBuiltins x = some (.builtin id)) (ha : IA X W (e :: es) a) (hg : Gl X x := by rfl) (hn : x ≠ "__name__" := by decide) (hdb : (x == ("__debug__" : Str)) = false := by decide)
    (he : starEach (e :: es) X.env = (false, eval e X.env) :: starEach es X.env := by rfl) (hpl : (backTo pos (starEach es X.env)).any (·.1) = false := by rfl) : IE X W (.Call (.Name x p) (e :: es) [] pos) (eCall g a) :=
  (pe_callB ho hg hm hv ha hn hdb he hpl).wk fun σ H Q h => lift_call h
theorem i_ty {x : Str} {T : String} {p : Pos} {g : List D → LH → Option (D × LH)} {a : AM} (ho : CallR X (.type T) (cD X.K g)) (hm : X.mg x = none) (hv : bootBuiltins x = some (.type T)) (ha : IA X W (e :: es) a) (hg : Gl X x := by rfl) (hn : x ≠ "__name__" := by decide) (hdb : (x == ("__debug__" : Str)) = false := by decide)
    (he : starEach (e :: es) X.env = (false, eval e X.env) :: starEach es X.env := by rfl) (hpl : (backTo pos (starEach es X.env)).any (·.1) = false := by rfl) : IE X W (.Call (.Name x p) (e :: es) [] pos) (eCall g a) :=
  (pe_callTy ho hg hm hv ha hn hdb he hpl).wk fun σ H Q h => lift_call h
end

/-! ### raise X(), try -/
/-- an own exception class without __init__ -/
structure ExcT (K : PySem.W.Frag) (mg : Str → Option Value) (x : Str) : Prop where
  ex : ∃ C, mg x = some (.ref C) ∧ PySem.W.excIn K C [.type "ValueError", .type "Exception", .type "BaseException", .type "object"] "ValueError.__new__" = true ∧ PySem.W.keepIn K (.ref C) = true ∧
    PySem.W.subIn K (.ref C) (.type "BaseException") = some true ∧ PySem.W.typeIn K (.ref C) = some (.type "type")
def sRaise (x : Str) : SM := fun δ h => some (.ex ⟨x, none⟩ δ h)
section
variable {X : Cx} {W : WX} {pos : Pos}
theorem pmk_own0 {C : Addr} {bmB : List Value} {B newId initId : String} {x : Str} {p pos : Pos} (F : ExcBaseFacts B newId initId bmB) (q : PySem.W.excIn X.K C bmB newId = true) (gC : X.mg x = some (.ref C))
    (kC : PySem.W.keepIn X.K (.ref C) = true) (r : Raises X (.ref C)) (hg : Gl X x) (hdb : (x == ("__debug__" : Str)) = false := by decide) : PMk X (.Call (.Name x p) [] [] pos) (fun _ H Q => Q (.ref C) none H) := by
  intro pins s σ H Q I h
  refine wpAny_Call_Name_kw (ld_glob I hg gC ?_ hdb)
  refine PySem.W.callWith_K0 I.kIn kC ?_
  show wpAny _ _ (call (.ref C) []) _ _ _
  obtain ⟨bm, N, nm, qn, bs, hdct, sn, sub, ab, col, dd, k0, k1, k2, k3, k5, mN, hC, hN, hni, T⟩ := exc_obj I.kIn q
  refine wpAny_call_exc_subT F T hC hN hni (fun h' e hm => ?_) (by show 0 ≤ sizeLine; exact Nat.zero_le _)
  exact mk_of I hm r h (I.hok.gone hm.new)
theorem is_raise {x : Str} {p p2 : Pos} (c : Cd X W) (T : ExcT X.K X.mg x) (hg : Gl X x := by rfl) (hdb : (x == ("__debug__" : Str)) = false := by decide) : IS X W (.Raise (some (.Call (.Name x p) [] [] p2)) none pos) (sRaise x) := by
  obtain ⟨C, gC, xC, kC, bC, tC⟩ := T.ex
  refine (ps_raise c.calm c.tk (pmk_own0 PySem.F.excBase_ValueError xC gC kC (raises_own bC tC) hg hdb)).wk fun De σ H ⟨ρ, δ, lh, st, ok, h⟩ => ?_
  exact h σ ρ H (.ref C) none Ext.refl ok st ⟨⟨C, gC, rfl⟩, fun f d z => nomatch z⟩
/-- which exceptions a clause takes: known for the classes xs and ys -/
def ExcM (K : PySem.W.Frag) (mg : Str → Option Value) (xs ys : List Str) : Prop := ∀ x ∈ xs, ∀ y ∈ ys, ∀ C C', mg x = some (.ref C) → mg y = some (.ref C') → PySem.W.exmOne K (.ref C) (.ref C') = some (decide (x = y))
def noEx (r : Option SR) : Option SR := match r with
  | some (.ex _ _ _) => none
  | r => r
def pick : List (Str × SM) → XD → DSt → LH → Option SR
  | [], e, δ, h => some (.ex e δ h)
  | (y, su) :: r, e, δ, h => if e.cls = y then noEx (su δ h) else pick r e δ h
def sTry (xs : List Str) (b : SM) (hs : List (Str × SM)) : SM := fun δ h => match b δ h with
  | some (.ex e δ' h') => if e.cls ∈ xs then pick hs e δ' h' else none
  | r => r
/-- the clauses, each with its class and its suite -/
inductive Hds (X : Cx) : List ExceptHandler → List (Str × SM) → Prop
  | nil : Hds X [] []
  | cons {y : Str} {su : SM} {b₀ : Stmt} {suite : List Stmt} {np pos' : Pos} {hds : List ExceptHandler} {l : List (Str × SM)} (hg : Gl X y) (hm : ∃ C, X.mg y = some (.ref C)) (hdb : (y == ("__debug__" : Str)) = false)
      (hsu : ∀ (a : Addr) (oe : Obj) (pn : List (Addr × Obj)), PSs (X.suite a ((a, oe) :: pn)) (b₀ :: suite) (liftS X.K X.mg W0 su)) (r : Hds X hds l) : Hds X (.ExceptHandler (some (.Name y np)) none (b₀ :: suite) pos' :: hds) ((y, su) :: l)
theorem Hds.ok {hds : List ExceptHandler} {l : List (Str × SM)} (h : Hds X hds l) : ∃ l', HdsOk X hds l' ∧ ∀ (xs : List Str) (De : Ends) (e : XD) (δ : DSt) (lh : LH) (ρ : List Addr) (H : Hp) (σ : L2.St) (cls : Value) (d : Option Addr), ExcM X.K X.mg xs (l.map (·.1)) → e.cls ∈ xs → LhOk X.K ρ H lh → StR X.K ρ H δ σ →
    ExR X.K X.mg ρ H e cls d → FinS X.K X.mg W ρ H De (pick l e δ lh) → wMany X.K W De l' cls d σ H := by
  induction h with
  | nil => exact ⟨[], .nil, fun xs De e δ lh ρ H σ cls d _ _ ok st x q => q σ ρ H cls d Ext.refl ok st x⟩
  | @cons y su b₀ suite np pos' hds l hg hm hdb hsu r ih =>
    obtain ⟨C', hm⟩ := hm
    obtain ⟨l', h1, h2⟩ := ih
    refine ⟨(.ref C', fun _ _ _ => liftS X.K X.mg W0 su) :: l', .cons ⟨hg, hdb, .inl hm⟩ (fun a oe cls d pn _ _ => hsu a oe pn) h1, fun xs De e δ lh ρ H σ cls d M hx ok st x q => ?_⟩
    obtain ⟨⟨C, gC, rfl⟩, hf⟩ := id x
    refine ⟨_, M e.cls hx y (by simp) C C' gC hm, fun hb a na => ?_, fun hb => ?_⟩
    · have e1 : e.cls = y := of_decide_eq_true hb
      unfold pick at q
      rw [if_pos e1] at q
      refine ⟨ρ, δ, lh, st, ok, ?_⟩
      generalize su δ lh = rr at q ⊢
      match rr, q with
      | some (.nx _ _), q => exact q
      | some (.rt _ _), q => exact q
      | some (.bk _ _), q => exact q
      | some (.ct _ _), q => exact q
    · have e1 : ¬ e.cls = y := of_decide_eq_false hb
      unfold pick at q
      rw [if_neg e1] at q
      exact h2 xs De e δ lh ρ H σ _ d (fun x hx y hy => M x hx y (by simp [hy])) hx ok st x q
/-- try: body, except X: suite, .. (no name) -/
theorem is_try {body : List Stmt} {b : SM} {h₀ : ExceptHandler} {hds : List ExceptHandler} {l : List (Str × SM)} (xs : List Str) (c : Cd X W) (hs : X.stack = X.env :: X.outer) (hf : X.env.frame = some X.env.locals) (M : ExcM X.K X.mg xs (l.map (·.1)))
    (hb : ∀ (W' : WX) (pn : List (Addr × Obj)) (xe : Value → Shared → Prop), Cd (X.tr pn xe) W' → PSs (X.tr pn xe) body (liftS X.K X.mg W' b)) (hh : Hds X (h₀ :: hds) l) : IS X W (.Try body (h₀ :: hds) [] [] pos) (sTry xs b l) := by
  obtain ⟨l', h1, h2⟩ := Hds.ok (W := W) hh
  refine (ps_try_many hs hf c.tk (tb := fun W' => liftS X.K X.mg W' b) (fun W' pn xe tk po => hb W' pn xe ⟨tk, po, c.calm, c.nd⟩) h1).wk fun De σ H ⟨ρ, δ, lh, st, ok, h⟩ => ⟨ρ, δ, lh, st, ok, ?_⟩
  unfold sTry at h
  generalize b δ lh = rr at h ⊢
  match rr, h with
  | some (.nx _ _), h => exact h
  | some (.rt _ _), h => exact h
  | some (.bk _ _), h => exact h
  | some (.ct _ _), h => exact h
  | some (.ex e δ' h'), h =>
    intro σ' ρ' H' cls dx e1 ok' st' q
    by_cases hx : e.cls ∈ xs
    · simp only [if_pos hx] at h
      exact h2 xs De e δ' h' ρ' H' σ' cls dx M hx ok' st' q (FinS.mono h e1)
    · simp only [if_neg hx] at h
      exact h.elim
end
end DL

/-! DL7: the operators and built-ins by values -/
namespace DL
open PySem PySem.Spec PyProof.Rows L2

/-! ### arithmetic -/
def gAdd (a b : D) (h : LH) : Option (D × LH) := match a, b with
  | .int i, .int j => some (.int (i + j), h)
  | .str x, .str y => if x.length + y.length ≤ sizeLine then some (.str (x ++ y), h) else none
  | .tup xs, .tup ys => if xs.length + ys.length ≤ sizeLine then some (.tup (xs ++ ys), h) else none
  | .ref i, .ref j => match h[i]?, h[j]? with
    | some (.lst xs), some (.lst ys) => if xs.length + ys.length ≤ sizeLine then some (.ref h.length, h ++ [.lst (xs ++ ys)]) else none
    | _, _ => none
  | _, _ => none
def gSub (a b : D) (h : LH) : Option (D × LH) := match a, b with
  | .int i, .int j => some (.int (i - j), h)
  | _, _ => none
/-- the factors together below some hundred million bits, or one of them short -/
def mulOk (i j : Int) : Prop := i.natAbs.log2 + j.natAbs.log2 < 1000000 ∨ i.natAbs < 2 ^ 64 ∨ j.natAbs < 2 ^ 64
instance (i j : Int) : Decidable (mulOk i j) := by unfold mulOk; exact inferInstance
def gMul (a b : D) (h : LH) : Option (D × LH) := match a, b with
  | .int i, .int j => if mulOk i j then some (.int (i * j), h) else none
  | .ref l, .int k => match h[l]? with
    | some (.lst xs) => if -(2 ^ 63) ≤ k ∧ k < 2 ^ 63 ∧ xs.length * k.toNat ≤ sizeLine then some (.ref h.length, h ++ [.lst (List.replicate k.toNat xs).flatten]) else none
    | _ => none
  | _, _ => none
def divOk (i j : Int) : Prop := j ≠ 0 ∧ Builtin.divisionGoesByPylong i j = false
instance (i j : Int) : Decidable (divOk i j) := by unfold divOk; exact inferInstance
def gFdiv (a b : D) (h : LH) : Option (D × LH) := match a, b with
  | .int i, .int j => if divOk i j then some (.int (i.fdiv j), h) else none
  | _, _ => none
def gMod (a b : D) (h : LH) : Option (D × LH) := match a, b with
  | .int i, .int j => if j ≠ 0 then some (.int (i.fmod j), h) else none
  | _, _ => none
def gPow (a b : D) (h : LH) : Option (D × LH) := match a, b with
  | .int i, .int j => if 0 ≤ j ∧ j ≤ 1000000 ∧ i.natAbs < 2 ^ 64 then some (.int (i ^ j.toNat), h) else none
  | _, _ => none
def gNeg (a : D) (h : LH) : Option (D × LH) := match a with
  | .int i => some (.int (-i), h)
  | _ => none
section
variable {X : Cx}
/-- t + u: the new object is known -/
theorem op_catN : OpR X (binaryOp .Add) (fun x y H Q => ∃ a b xs ys, x = .ref a ∧ y = .ref b ∧ SqT X.K H a xs ∧ SqT X.K H b ys ∧ xs.length + ys.length ≤ sizeLine ∧
    (xs = [] → Q (.ref b) H) ∧ (xs ≠ [] → ys = [] → Q (.ref a) H) ∧ (xs ≠ [] → ys ≠ [] → ∀ p o, o.dict = none → H p = none → Q (.ref p) (upd H p (.frz o (.tup (xs ++ ys)))))) := by
  intro pins s σ H x y v u Q I rx ry h
  obtain ⟨a, b, xs, ys, rfl, rfl, ha, hb, hz, q0, q1, q2⟩ := h
  cases rx
  cases ry
  obtain ⟨its, r1, p1, _⟩ := I.tuple ha
  obtain ⟨its2, r2, p2, _⟩ := I.tuple hb
  by_cases hx : xs = []
  · subst hx
    cases r1
    exact cat_tup0 p1 p2 ⟨.ref b, H, I, rfl, q0 rfl⟩
  · refine HT.cat_tup p1 p2 (fun z => hx (r1.nil_iff.mp z)) (fun z => ⟨.ref a, H, I, rfl, q1 hx (r2.nil_iff.mp z)⟩) (fun z => ?_) (by rw [← r1.length, ← r2.length]; exact hz)
    refine ⟨.ref s.heap.objs.size, _, I.laid (t' := s.toks) (o := .frz { cls := .type "tuple", data := .seq (its ++ its2).toArray } (.tup (xs ++ ys))) (fun b ob q => Heap.get?_push_of_some _ q) (Nat.le_refl _) ?_, rfl, q2 hx (fun w => z (r2.nil_iff.mpr w)) _ _ rfl (I.hok.fresh (Nat.le_refl _))⟩
    exact ⟨Heap.get?_push_size _ rfl, by rw [List.length_append]; exact hz, _, r1.append r2, IsTup.new _ _⟩
theorem rep_int {K : PySem.W.Frag} {ρ : List Addr} {H : Hp} {i : Int} {v : V} (h : Rep K ρ H (.int i) v) : v = .int i := h
theorem o_add : OpR X (binaryOp .Add) (rD X.K gAdd) := by
  intro pins s σ H x y v u Q I rx ry h
  obtain ⟨ρ, lh, a, b, d, lh', ok, ra, rb, e, q⟩ := h
  cases a with
  | int i =>
    cases b with
    | int j => cases e; cases ra; cases rb; exact op_add pins s σ H _ _ v u Q I rx ry ⟨i, j, rfl, rfl, q _ ρ H Ext.refl ok rfl⟩
    | _ => cases e
  | str i =>
    cases b with
    | str j =>
      cases ra; cases rb
      unfold gAdd at e
      simp only at e
      split at e
      · rename_i hz
        cases e
        exact op_add_str pins s σ H _ _ v u Q I rx ry ⟨i, j, rfl, rfl, hz, q _ ρ H Ext.refl ok rfl⟩
      · cases e
    | _ => cases e
  | tup xs =>
    cases b with
    | tup ys =>
      unfold gAdd at e
      simp only at e
      split at e
      · rename_i hz
        cases e
        obtain ⟨a, vs, rfl, hs, hr⟩ := ra
        obtain ⟨b, ws, rfl, hs', hr'⟩ := rb
        have l1 := hr.length
        have l2 := hr'.length
        have nil_of : ∀ {zs : List D} {us : List V}, zs.length = us.length → us = [] → zs = [] := fun {zs us} l e => by
          subst e
          exact List.length_eq_zero_iff.mp l
        refine op_catN pins s σ H _ _ v u Q I rx ry ⟨a, b, vs, ws, rfl, rfl, hs.sq, hs'.sq, by omega, fun hv => ?_, fun _ hw => ?_, fun _ _ p o ho hp => q _ ρ _ (Ext.new hp) (ok.grow hp) ⟨p, vs ++ ws, rfl, .inl ⟨o, upd_same, ho⟩, Reps.mono (Ext.new hp) _ _ (hr.append hr')⟩⟩
        · have e1 := nil_of l1 hv
          subst e1
          exact q _ ρ H Ext.refl ok ⟨b, ws, rfl, hs', hr'⟩
        · have e1 := nil_of l2 hw
          subst e1
          exact q _ ρ H Ext.refl ok ⟨a, vs, rfl, hs, by simpa using hr⟩
      · cases e
    | _ => cases e
  | ref i =>
    cases b with
    | ref j =>
      unfold gAdd at e
      simp only at e
      split at e
      · rename_i xs ys e1 e2
        split at e
        · rename_i hz
          cases e
          obtain ⟨a, rfl, ha, vs, hv, hr⟩ := ok.obj ra e1
          obtain ⟨b, rfl, hb, ws, hw, hr'⟩ := ok.obj rb e2
          have l1 := hr.length
          have l2 := hr'.length
          refine op_cat pins s σ H _ _ v u Q I rx ry ⟨a, b, vs, ws, rfl, rfl, hv, hw, by omega, fun p hp => ?_⟩
          exact q _ (ρ ++ [p]) _ (Ext.newR hp) (ok.push hp ⟨vs ++ ws, upd_same, Reps.mono (Ext.newR hp) _ _ (hr.append hr')⟩) ⟨p, rfl, by rw [← ok.len]; simp⟩
        · cases e
      · cases e
    | _ => cases e
  | _ => cases e
theorem o_sub : OpR X (binaryOp .Sub) (rD X.K gSub) := by
  intro pins s σ H x y v u Q I rx ry h
  obtain ⟨ρ, lh, a, b, d, lh', ok, ra, rb, e, q⟩ := h
  cases a with
  | int i =>
    cases b with
    | int j => cases e; cases ra; cases rb; exact op_sub pins s σ H _ _ v u Q I rx ry ⟨i, j, rfl, rfl, q _ ρ H Ext.refl ok rfl⟩
    | _ => cases e
  | _ => cases e
theorem mul_of {i j : Int} (h : mulOk i j) : IntMulOk i j := by
  rcases h with h | h | h
  · exact CMulW.ok h
  · exact .of_left (intBits_le_64 (by omega) (by omega))
  · exact .of_right (intBits_le_64 (by omega) (by omega))
theorem o_mul : OpR X (binaryOp .Mult) (rD X.K gMul) := by
  intro pins s σ H x y v u Q I rx ry h
  obtain ⟨ρ, lh, a, b, d, lh', ok, ra, rb, e, q⟩ := h
  cases a with
  | int i =>
    cases b with
    | int j =>
      unfold gMul at e
      simp only at e
      split at e
      · rename_i hm
        cases e; cases ra; cases rb
        obtain ⟨t, rfl⟩ := rx
        obtain ⟨t', rfl⟩ := ry
        exact mul_int ⟨.int _, H, I.tok _, ⟨_, rfl⟩, q _ ρ H Ext.refl ok rfl⟩ (mul_of hm)
      · cases e
    | _ => cases e
  | ref l =>
    cases b with
    | int k =>
      unfold gMul at e
      simp only at e
      split at e
      · rename_i xs e1
        split at e
        · rename_i hz
          cases e; cases rb
          obtain ⟨a, rfl, ha, vs, hv, hr⟩ := ok.obj ra e1
          have l1 := hr.length
          refine op_rep pins s σ H _ _ v u Q I rx ry ⟨a, k, vs, rfl, rfl, hv, hz.1, hz.2.1, by rw [← l1]; exact hz.2.2, fun p hp => ?_⟩
          have rr : ∀ n : Nat, Reps X.K ρ H (List.replicate n xs).flatten (List.replicate n vs).flatten := by
            intro n
            induction n with
            | zero => exact rfl
            | succ n ih => rw [List.replicate_succ, List.replicate_succ, List.flatten_cons, List.flatten_cons]; exact hr.append ih
          exact q _ (ρ ++ [p]) _ (Ext.newR hp) (ok.push hp ⟨_, upd_same, Reps.mono (Ext.newR hp) _ _ (rr _)⟩) ⟨p, rfl, by rw [← ok.len]; simp⟩
        · cases e
      · cases e
    | _ => cases e
  | _ => cases e
theorem o_fdiv : OpR X (binaryOp .FloorDiv) (rD X.K gFdiv) := by
  intro pins s σ H x y v u Q I rx ry h
  obtain ⟨ρ, lh, a, b, d, lh', ok, ra, rb, e, q⟩ := h
  cases a with
  | int i =>
    cases b with
    | int j =>
      unfold gFdiv at e
      simp only at e
      split at e
      · rename_i hm
        cases e; cases ra; cases rb
        obtain ⟨t, rfl⟩ := rx
        obtain ⟨t', rfl⟩ := ry
        exact floordiv_int hm.1 ⟨.int _, H, I.tok _, ⟨_, rfl⟩, q _ ρ H Ext.refl ok rfl⟩ (.inl hm.2)
      · cases e
    | _ => cases e
  | _ => cases e
theorem o_mod : OpR X (binaryOp .Mod) (rD X.K gMod) := by
  intro pins s σ H x y v u Q I rx ry h
  obtain ⟨ρ, lh, a, b, d, lh', ok, ra, rb, e, q⟩ := h
  cases a with
  | int i =>
    cases b with
    | int j =>
      unfold gMod at e
      simp only at e
      split at e
      · rename_i hm
        cases e; cases ra; cases rb
        exact op_modN pins s σ H _ _ v u Q I rx ry ⟨i, j, rfl, rfl, hm, q _ ρ H Ext.refl ok rfl⟩
      · cases e
    | _ => cases e
  | _ => cases e
theorem o_pow : OpR X (binaryOp .Pow) (rD X.K gPow) := by
  intro pins s σ H x y v u Q I rx ry h
  obtain ⟨ρ, lh, a, b, d, lh', ok, ra, rb, e, q⟩ := h
  cases a with
  | int i =>
    cases b with
    | int j =>
      unfold gPow at e
      simp only at e
      split at e
      · rename_i hm
        cases e; cases ra; cases rb
        exact op_pow pins s σ H _ _ v u Q I rx ry ⟨i, j, rfl, rfl, hm, q _ ρ H Ext.refl ok rfl⟩
      · cases e
    | _ => cases e
  | _ => cases e
theorem o_neg : UnR X (unaryOp .USub) (uD X.K gNeg) := by
  intro pins s σ H x v Q I rx h
  obtain ⟨ρ, lh, a, d, lh', ok, ra, e, q⟩ := h
  cases a with
  | int i => cases e; cases ra; exact un_neg pins s σ H _ v Q I rx ⟨i, rfl, q _ ρ H Ext.refl ok rfl⟩
  | _ => cases e
end

/-! ### order -/
def gOrd (f : Int → Int → Bool) (g : Str → Str → Bool) (a b : D) (h : LH) : Option (D × LH) := match a, b with
  | .int i, .int j => some (.bl (f i j), h)
  | .str x, .str y => some (.bl (g x y), h)
  | _, _ => none
abbrev gLt := gOrd (fun i j => decide (i < j)) (fun x y => decide (x.cps.toList < y.cps.toList))
def gOrdI (f : Int → Int → Bool) (a b : D) (h : LH) : Option (D × LH) := match a, b with
  | .int i, .int j => some (.bl (f i j), h)
  | _, _ => none
abbrev gLe := gOrdI (fun i j => decide (i ≤ j))
abbrev gGt := gOrdI (fun i j => decide (j < i))
abbrev gGe := gOrdI (fun i j => decide (j ≤ i))
section
variable {X : Cx}
theorem o_ordI {op : CmpOp} {f : Int → Int → Bool} (ho : OpR X (compareOp op) (rI0 fun i j => .bl (f i j))) : OpR X (compareOp op) (rD X.K (gOrdI f)) := by
  intro pins s σ H x y v u Q I rx ry h
  obtain ⟨ρ, lh, a, b, d, lh', ok, ra, rb, e, q⟩ := h
  cases a with
  | int i =>
    cases b with
    | int j => cases e; cases ra; cases rb; exact ho pins s σ H _ _ v u Q I rx ry ⟨i, j, rfl, rfl, q _ ρ H Ext.refl ok rfl⟩
    | _ => cases e
  | _ => cases e
theorem o_le : OpR X (compareOp .LtE) (rD X.K gLe) := o_ordI op_le
theorem o_gt : OpR X (compareOp .Gt) (rD X.K gGt) := o_ordI op_gt
theorem o_ge : OpR X (compareOp .GtE) (rD X.K gGe) := o_ordI op_ge
theorem o_lt : OpR X (compareOp .Lt) (rD X.K gLt) := by
  intro pins s σ H x y v u Q I rx ry h
  obtain ⟨ρ, lh, a, b, d, lh', ok, ra, rb, e, q⟩ := h
  cases a with
  | int i =>
    cases b with
    | int j => cases e; cases ra; cases rb; exact op_lt pins s σ H _ _ v u Q I rx ry ⟨i, j, rfl, rfl, q _ ρ H Ext.refl ok rfl⟩
    | _ => cases e
  | str i =>
    cases b with
    | str j => cases e; cases ra; cases rb; exact op_lt_str pins s σ H _ _ v u Q I rx ry ⟨i, j, rfl, rfl, q _ ρ H Ext.refl ok rfl⟩
    | _ => cases e
  | _ => cases e
end

/-! ### == over data -/
mutual
/-- the model's data, the lists by rd -/
def D.py (rd : Nat → Option PyData) : D → Option PyData
  | .non => some .none
  | .bl b => some (.bool b)
  | .int i => some (.int i)
  | .str x => some (.str x)
  | .tup ds => (D.pys rd ds).map .tuple
  | .raw _ => none
  | .ref i => rd i
def D.pys (rd : Nat → Option PyData) : List D → Option (List PyData)
  | [] => some []
  | d :: ds => match d.py rd, D.pys rd ds with
    | some x, some xs => some (x :: xs)
    | _, _ => none
end
def rdN (lh : LH) : Nat → Nat → Option PyData
  | 0, _ => none
  | n + 1, i => match lh[i]? with
    | some (.lst ds) => (D.pys (rdN lh n) ds).map .list
    | some (.rls ds) => (D.pys (rdN lh n) ds).map .list
    | _ => none
/-- lists nested up to four deep -/
def D.pyH (lh : LH) (d : D) : Option PyData := d.py (rdN lh 4)
section
variable {K : PySem.W.Frag} {ρ : List Addr} {H : Hp} {lh : LH}
mutual
theorem Rep.dp {rd : Nat → Option PyData} (hr : ∀ i x v, rd i = some x → Rep K ρ H (.ref i) v → Dp K H v x) : ∀ (d : D) (v : V) (x : PyData), Rep K ρ H d v → d.py rd = some x → Dp K H v x
  | .non, v, x, r, e => by cases r; cases e; exact .non
  | .bl b, v, x, r, e => by cases r; cases e; exact .bl b
  | .int i, v, x, r, e => by cases r; cases e; exact .int i
  | .str y, v, x, r, e => by cases r; cases e; exact .str y
  | .tup ds, v, x, r, e => by
    obtain ⟨a, vs, rfl, hs, rr⟩ := r
    unfold D.py at e
    cases q : D.pys rd ds with
    | none => rw [q] at e; cases e
    | some xs =>
      rw [q] at e
      cases e
      exact .tup hs.sq (Reps.dp hr ds vs xs rr q)
  | .raw ds, v, x, r, e => by cases e
  | .ref i, v, x, r, e => hr i x v e r
theorem Reps.dp {rd : Nat → Option PyData} (hr : ∀ i x v, rd i = some x → Rep K ρ H (.ref i) v → Dp K H v x) : ∀ (ds : List D) (vs : List V) (xs : List PyData), Reps K ρ H ds vs → D.pys rd ds = some xs → DpAll K H vs xs
  | [], vs, xs, r, e => by cases r; cases e; exact .nil
  | d :: ds, vs, xs, r, e => by
    obtain ⟨v, r', rfl, h1, h2⟩ := r
    unfold D.pys at e
    cases q1 : d.py rd with
    | none => rw [q1] at e; cases e
    | some x =>
      cases q2 : D.pys rd ds with
      | none => rw [q1, q2] at e; cases e
      | some xs' =>
        rw [q1, q2] at e
        cases e
        exact .cons (Rep.dp hr d v x h1 q1) (Reps.dp hr ds r' xs' h2 q2)
end
theorem rdN_dp (ok : LhOk K ρ H lh) : ∀ (n i : Nat) (x : PyData) (v : V), rdN lh n i = some x → Rep K ρ H (.ref i) v → Dp K H v x
  | 0, _, _, _, e, _ => by cases e
  | n + 1, i, x, v, e, r => by
    unfold rdN at e
    split at e
    · rename_i ds q
      obtain ⟨a, rfl, ha, vs, hv, hr⟩ := ok.obj r q
      cases q2 : D.pys (rdN lh n) ds with
      | none => rw [q2] at e; cases e
      | some xs =>
        rw [q2] at e
        cases e
        exact .lst (.inl (.inl hv)) (Reps.dp (fun i x v => rdN_dp ok n i x v) ds vs xs hr q2)
    · rename_i ds q
      obtain ⟨a, rfl, ha, vs, hv, hr⟩ := ok.obj r q
      cases q2 : D.pys (rdN lh n) ds with
      | none => rw [q2] at e; cases e
      | some xs =>
        rw [q2] at e
        cases e
        exact .lst hv.sq (Reps.dp (fun i x v => rdN_dp ok n i x v) ds vs xs hr q2)
    · cases e
theorem D.pyH_dp (ok : LhOk K ρ H lh) {d : D} {v : V} {x : PyData} (r : Rep K ρ H d v) (e : d.pyH lh = some x) : Dp K H v x := Rep.dp (fun i x v => rdN_dp ok 4 i x v) d v x r e
end
/-- == of two: whether it is reckoned, what it is -/
def eqD (lh : LH) (a b : D) : Option Bool := match a, b with
  | .int i, .int j => some (i == j)
  | .str x, .str y => some (x == y)
  | .bl x, .bl y => some (x == y)
  | .non, .non => some true
  | a, b => match a.pyH lh, b.pyH lh with
    | some x, some y => if SeqAt.shaped x = true ∧ SeqAt.shaped y = true then some (PyData.eqv x y) else none
    | _, _ => none
def gEq (a b : D) (h : LH) : Option (D × LH) := (eqD h a b).map fun c => (.bl c, h)
def gNe (a b : D) (h : LH) : Option (D × LH) := (eqD h a b).map fun c => (.bl (!c), h)
section
variable {X : Cx}
theorem eqD_cases {lh : LH} {a b : D} {c : Bool} (h : eqD lh a b = some c) : (∃ i j, a = .int i ∧ b = .int j ∧ c = (i == j)) ∨ (∃ i j, a = .str i ∧ b = .str j ∧ c = (i == j)) ∨ (∃ i j, a = .bl i ∧ b = .bl j ∧ c = (i == j)) ∨ (a = .non ∧ b = .non ∧ c = true) ∨
    ∃ x y, a.pyH lh = some x ∧ b.pyH lh = some y ∧ SeqAt.shaped x = true ∧ SeqAt.shaped y = true ∧ c = PyData.eqv x y := by
  unfold eqD at h
  split at h
  · exact .inl ⟨_, _, rfl, rfl, (Option.some.inj h).symm⟩
  · exact .inr (.inl ⟨_, _, rfl, rfl, (Option.some.inj h).symm⟩)
  · exact .inr (.inr (.inl ⟨_, _, rfl, rfl, (Option.some.inj h).symm⟩))
  · exact .inr (.inr (.inr (.inl ⟨rfl, rfl, (Option.some.inj h).symm⟩)))
  · split at h
    · split at h
      · rename_i hs
        exact .inr (.inr (.inr (.inr ⟨_, _, by assumption, by assumption, hs.1, hs.2, (Option.some.inj h).symm⟩)))
      · cases h
    · cases h
theorem o_eq (hu : X.A.units + 64 < cLine) : OpR X (compareOp .Eq) (rD X.K gEq) := by
  intro pins s σ H x y v u Q I rx ry h
  obtain ⟨ρ, lh, a, b, d, lh', ok, ra, rb, e, q⟩ := h
  unfold gEq at e
  cases c : eqD lh a b with
  | none => rw [c] at e; cases e
  | some k =>
    rw [c] at e
    cases e
    have q' := q (.bl k) ρ H Ext.refl ok rfl
    rcases eqD_cases c with ⟨i, j, rfl, rfl, rfl⟩ | ⟨i, j, rfl, rfl, rfl⟩ | ⟨i, j, rfl, rfl, rfl⟩ | ⟨rfl, rfl, rfl⟩ | ⟨p, p', h1, h2, s1, s2, rfl⟩
    · cases ra; cases rb; exact op_eq pins s σ H _ _ v u Q I rx ry ⟨rfl, by rw [dec_int]; exact q'⟩
    · cases ra; cases rb; exact op_eq pins s σ H _ _ v u Q I rx ry ⟨rfl, by rw [dec_str]; exact q'⟩
    · cases ra; cases rb; exact op_eq pins s σ H _ _ v u Q I rx ry ⟨rfl, by rw [dec_bl]; exact q'⟩
    · cases ra; cases rb; exact op_eq pins s σ H _ _ v u Q I rx ry ⟨rfl, by simpa using q'⟩
    · exact op_eqD hu pins s σ H x y v u Q I rx ry ⟨p, p', D.pyH_dp ok ra h1, D.pyH_dp ok rb h2, s1, s2, q'⟩
theorem o_ne (hu : X.A.units + 64 < cLine) : OpR X (compareOp .NotEq) (rD X.K gNe) := by
  intro pins s σ H x y v u Q I rx ry h
  obtain ⟨ρ, lh, a, b, d, lh', ok, ra, rb, e, q⟩ := h
  unfold gNe at e
  cases c : eqD lh a b with
  | none => rw [c] at e; cases e
  | some k =>
    rw [c] at e
    cases e
    have q' := q (.bl (!k)) ρ H Ext.refl ok rfl
    rcases eqD_cases c with ⟨i, j, rfl, rfl, rfl⟩ | ⟨i, j, rfl, rfl, rfl⟩ | ⟨i, j, rfl, rfl, rfl⟩ | ⟨rfl, rfl, rfl⟩ | ⟨p, p', h1, h2, s1, s2, rfl⟩
    · cases ra; cases rb; exact op_ne pins s σ H _ _ v u Q I rx ry ⟨rfl, by rw [dec_int]; exact q'⟩
    · cases ra; cases rb; exact op_ne pins s σ H _ _ v u Q I rx ry ⟨rfl, by rw [dec_str]; exact q'⟩
    · cases ra; cases rb; exact op_ne pins s σ H _ _ v u Q I rx ry ⟨rfl, by rw [dec_bl]; exact q'⟩
    · cases ra; cases rb; exact op_ne pins s σ H _ _ v u Q I rx ry ⟨rfl, by simpa using q'⟩
    · exact op_neD hu pins s σ H x y v u Q I rx ry ⟨p, p', D.pyH_dp ok ra h1, D.pyH_dp ok rb h2, s1, s2, q'⟩
/-! is None, is not None -/
def gIsN (a : D) : Bool := match a with | .non => true | _ => false
def gIs (a b : D) (h : LH) : Option (D × LH) := match b with
  | .non => some (.bl (gIsN a), h)
  | .bl k => match a with
    | .bl j => some (.bl (decide (j = k)), h)
    | _ => none
  | _ => none
def gIsNot (a b : D) (h : LH) : Option (D × LH) := match b with
  | .non => some (.bl (!gIsN a), h)
  | .bl k => match a with
    | .bl j => some (.bl (!decide (j = k)), h)
    | _ => none
  | _ => none
theorem Rep.non_iff {K : PySem.W.Frag} {ρ : List Addr} {H : Hp} {d : D} {v : V} (r : Rep K ρ H d v) : decide (v = .non) = gIsN d := by
  cases d with
  | non => cases r; rfl
  | bl b => cases r; rfl
  | int i => cases r; rfl
  | str x => cases r; rfl
  | tup ds => obtain ⟨a, vs, rfl, _⟩ := r; rfl
  | raw ds => obtain ⟨a, vs, rfl, _⟩ := r; rfl
  | ref i => obtain ⟨a, rfl, _⟩ := r; rfl
theorem o_is : OpR X (compareOp .Is) (rD X.K gIs) := by
  intro pins s σ H x y v u Q I rx ry h
  obtain ⟨ρ, lh, a, b, d, lh', ok, ra, rb, e, q⟩ := h
  cases b with
  | non => cases e; cases rb; exact op_isN pins s σ H _ _ v u Q I rx ry ⟨rfl, by rw [ra.non_iff]; exact q _ ρ H Ext.refl ok rfl⟩
  | bl k =>
    cases a with
    | bl j => cases e; cases ra; cases rb; exact op_isBl pins s σ H _ _ v u Q I rx ry ⟨j, k, rfl, rfl, q _ ρ H Ext.refl ok rfl⟩
    | _ => cases e
  | _ => cases e
theorem o_isNot : OpR X (compareOp .IsNot) (rD X.K gIsNot) := by
  intro pins s σ H x y v u Q I rx ry h
  obtain ⟨ρ, lh, a, b, d, lh', ok, ra, rb, e, q⟩ := h
  cases b with
  | non => cases e; cases rb; exact op_notN pins s σ H _ _ v u Q I rx ry ⟨rfl, by rw [ra.non_iff]; exact q _ ρ H Ext.refl ok rfl⟩
  | bl k =>
    cases a with
    | bl j => cases e; cases ra; cases rb; exact op_notBl pins s σ H _ _ v u Q I rx ry ⟨j, k, rfl, rfl, q _ ρ H Ext.refl ok rfl⟩
    | _ => cases e
  | _ => cases e
end
end DL

/-! DL8: in, subscripts, slices; len, abs, int, max, min, all, sum, tuple, list, sorted; isinstance -/
namespace DL
open PySem PySem.Spec PyProof.Rows L2

def dKey (d : D) : Option Key := match d with
  | .int i => some (.inl i)
  | .str x => some (.inr x)
  | _ => none
theorem rep_key {K : PySem.W.Frag} {ρ : List Addr} {H : Hp} {d : D} {v : V} {k : Key} (r : Rep K ρ H d v) (e : dKey d = some k) : v = kV k := by
  cases d with
  | int i => cases r; cases e; rfl
  | str i => cases r; cases e; rfl
  | _ => cases e
/-- what a dict holds at a key -/
def valD (kvs : List (Key × D)) (k : Key) : Option D := (kvs.find? fun kv => decide (kv.1 = k)).map (·.2)
def putD (kvs : List (Key × D)) (k : Key) (d : D) : List (Key × D) := if (kvs.any fun kv => decide (kv.1 = k)) = true then kvs.map fun kv => if kv.1 = k then (kv.1, d) else kv else kvs ++ [(k, d)]
theorem RepK.val {K : PySem.W.Frag} {ρ : List Addr} {H : Hp} (k : Key) : ∀ {kvs : List (Key × D)} {vs : List (Key × V)}, RepK K ρ H kvs vs → (valD kvs k = none ∧ valV vs k = none) ∨ ∃ d v, valD kvs k = some d ∧ valV vs k = some v ∧ Rep K ρ H d v
  | [], _, h => by cases h; exact .inl ⟨rfl, rfl⟩
  | (k', d) :: kvs, _, h => by
    obtain ⟨v, r, rfl, h1, h2⟩ := h
    by_cases e : k' = k
    · refine .inr ⟨d, v, ?_, ?_, h1⟩
      · simp [valD, e]
      · simp [valV, e]
    · rcases RepK.val k h2 with ⟨a, b⟩ | ⟨d', v', a, b, c⟩
      · exact .inl ⟨by simpa [valD, e] using a, by simpa [valV, e] using b⟩
      · exact .inr ⟨d', v', by simpa [valD, e] using a, by simpa [valV, e] using b, c⟩
theorem RepK.any {K : PySem.W.Frag} {ρ : List Addr} {H : Hp} (k : Key) : ∀ {kvs : List (Key × D)} {vs : List (Key × V)}, RepK K ρ H kvs vs → (kvs.any fun kv => decide (kv.1 = k)) = (vs.any fun kv => decide (kv.1 = k))
  | [], _, h => by cases h; rfl
  | (k', d) :: kvs, _, h => by
    obtain ⟨v, r, rfl, h1, h2⟩ := h
    simp [RepK.any k h2]
theorem RepK.repl {K : PySem.W.Frag} {ρ : List Addr} {H : Hp} (k : Key) {d : D} {v : V} (rd : Rep K ρ H d v) : ∀ {kvs : List (Key × D)} {vs : List (Key × V)}, RepK K ρ H kvs vs → RepK K ρ H (kvs.map fun kv => if kv.1 = k then (kv.1, d) else kv) (vs.map fun kv => if kv.1 = k then (kv.1, v) else kv)
  | [], _, h => by cases h; rfl
  | (k', d') :: kvs, _, h => by
    obtain ⟨v', r, rfl, h1, h2⟩ := h
    show RepK K ρ H ((if k' = k then (k', d) else (k', d')) :: kvs.map fun kv => if kv.1 = k then (kv.1, d) else kv) ((if k' = k then (k', v) else (k', v')) :: r.map fun kv => if kv.1 = k then (kv.1, v) else kv)
    by_cases e : k' = k
    · rw [if_pos e, if_pos e]; exact ⟨v, _, rfl, rd, RepK.repl k rd h2⟩
    · rw [if_neg e, if_neg e]; exact ⟨v', _, rfl, h1, RepK.repl k rd h2⟩
theorem RepK.snoc {K : PySem.W.Frag} {ρ : List Addr} {H : Hp} {k : Key} {d : D} {v : V} (rd : Rep K ρ H d v) : ∀ {kvs : List (Key × D)} {vs : List (Key × V)}, RepK K ρ H kvs vs → RepK K ρ H (kvs ++ [(k, d)]) (vs ++ [(k, v)])
  | [], _, h => by cases h; exact ⟨v, [], rfl, rd, rfl⟩
  | (k', d') :: kvs, _, h => by
    obtain ⟨v', r, rfl, h1, h2⟩ := h
    exact ⟨v', _, rfl, h1, RepK.snoc rd h2⟩
theorem RepK.put {K : PySem.W.Frag} {ρ : List Addr} {H : Hp} (k : Key) {d : D} {v : V} (rd : Rep K ρ H d v) {kvs : List (Key × D)} {vs : List (Key × V)} (h : RepK K ρ H kvs vs) : RepK K ρ H (putD kvs k d) (putK vs k v) := by
  unfold putD putK
  rw [RepK.any k h]
  split
  · exact RepK.repl k rd h
  · exact RepK.snoc rd h

/-! ### in -/
def dictAt (h : LH) (i : Nat) : Option (List (Key × D)) := match h[i]? with
  | some (.dic kvs) => some kvs
  | _ => none
/-- flat data, for in over a tuple -/
def D.flat : D → Option V
  | .non => some .non
  | .bl b => some (.bl b)
  | .int i => some (.int i)
  | .str x => some (.str x)
  | _ => none
def flats : List D → Option (List V)
  | [] => some []
  | d :: ds => match d.flat, flats ds with
    | some v, some vs => some (v :: vs)
    | _, _ => none
theorem Rep.flat {K : PySem.W.Frag} {ρ : List Addr} {H : Hp} {d : D} {v w : V} (r : Rep K ρ H d v) (e : d.flat = some w) : v = w ∧ flatV v = true := by
  cases d with
  | non => cases r; cases e; exact ⟨rfl, rfl⟩
  | bl b => cases r; cases e; exact ⟨rfl, rfl⟩
  | int i => cases r; cases e; exact ⟨rfl, rfl⟩
  | str x => cases r; cases e; exact ⟨rfl, rfl⟩
  | _ => cases e
theorem Reps.flat {K : PySem.W.Frag} {ρ : List Addr} {H : Hp} : ∀ {ds : List D} {vs ws : List V}, Reps K ρ H ds vs → flats ds = some ws → vs = ws ∧ vs.all flatV = true
  | [], _, _, r, e => by cases r; cases e; exact ⟨rfl, rfl⟩
  | d :: ds, _, _, r, e => by
    obtain ⟨v, r', rfl, h1, h2⟩ := r
    unfold flats at e
    cases q1 : d.flat with
    | none => rw [q1] at e; cases e
    | some v' =>
      cases q2 : flats ds with
      | none => rw [q1, q2] at e; cases e
      | some vs' =>
        rw [q1, q2] at e
        cases e
        obtain ⟨a1, a2⟩ := h1.flat q1
        obtain ⟨b1, b2⟩ := Reps.flat h2 q2
        subst a1; subst b1
        exact ⟨rfl, by simp [a2, b2]⟩
/-- whether a is in b -/
def inD (h : LH) (a b : D) : Option Bool := match b with
  | .str z => match a with
    | .str x => some (!(Builtin.Str.occurrences z x 0 z.length 1).isEmpty)
    | _ => none
  | .tup ds => match a.flat, flats ds with
    | some x, some xs => some (inV x xs)
    | _, _ => none
  | .ref i => match h[i]? with
    | some (.dic kvs) => (dKey a).map fun k => (valD kvs k).isSome
    | _ => match a.pyH h, b.pyH h with
      | some x, some (.list ys) => if SeqAt.shaped x = true ∧ SeqAt.shaped (.list ys) = true then some (ys.any fun z => PyData.eqv z x) else none
      | _, _ => none
  | _ => none
def gIn (a b : D) (h : LH) : Option (D × LH) := (inD h a b).map fun c => (.bl c, h)
def gNotIn (a b : D) (h : LH) : Option (D × LH) := (inD h a b).map fun c => (.bl (!c), h)
section
variable {X : Cx}
theorem o_in_aux {op : CmpOp} {f : Bool → Bool} (hu : X.A.units + 65 < cLine)
    (h1 : OpR X (compareOp op) (fun x y H Q => ∃ i j, x = .str i ∧ y = .str j ∧ Q (.bl (f (!(Builtin.Str.occurrences j i 0 j.length 1).isEmpty))) H))
    (h2 : OpR X (compareOp op) (fun x y H Q => ∃ p xs, y = .ref p ∧ (SqL X.K H p xs ∨ SqT X.K H p xs) ∧ flatV x = true ∧ xs.all flatV = true ∧ Q (.bl (f (inV x xs))) H))
    (h3 : OpR X (compareOp op) (fun x y H Q => ∃ a o, y = .ref a ∧ DGet H a x o ∧ Q (.bl (f o.isSome)) H))
    (h4 : OpR X (compareOp op) (fun x y H Q => ∃ d ds, Dp X.K H x d ∧ Dp X.K H y (.list ds) ∧ SeqAt.shaped d = true ∧ SeqAt.shaped (.list ds) = true ∧ Q (.bl (f (ds.any fun z => PyData.eqv z d))) H)) :
    OpR X (compareOp op) (rD X.K fun a b h => (inD h a b).map fun c => (.bl (f c), h)) := by
  intro pins s σ H x y v u Q I rx ry h
  obtain ⟨ρ, lh, a, b, d, lh', ok, ra, rb, e, q⟩ := h
  dsimp only at e
  cases c : inD lh a b with
  | none => rw [c] at e; cases e
  | some k =>
    rw [c] at e
    cases e
    have q' := q (.bl (f k)) ρ H Ext.refl ok rfl
    unfold inD at c
    split at c
    · rename_i z
      cases rb
      split at c
      · rename_i x'
        cases ra
        cases c
        exact h1 pins s σ H _ _ v u Q I rx ry ⟨_, _, rfl, rfl, q'⟩
      · cases c
    · rename_i ds
      obtain ⟨p, vs, rfl, hs, hr⟩ := rb
      split at c
      · rename_i w ws e1 e2
        cases c
        obtain ⟨rfl, a2⟩ := ra.flat e1
        obtain ⟨rfl, b2⟩ := hr.flat e2
        exact h2 pins s σ H _ _ v u Q I rx ry ⟨p, _, rfl, .inr hs.sq, a2, b2, q'⟩
      · cases c
    · rename_i i
      split at c
      · rename_i kvs e1
        cases ek : dKey a with
        | none => rw [ek] at c; cases c
        | some ky =>
          rw [ek] at c
          cases c
          obtain ⟨p, rfl, hp, vs, hv, hr⟩ := ok.obj rb e1
          have := rep_key ra ek
          subst this
          refine h3 pins s σ H _ _ v u Q I rx ry ⟨p, _, rfl, DGet.k hv, ?_⟩
          rcases hr.val ky with ⟨z1, z2⟩ | ⟨d1, v1, z1, z2, _⟩
          · dsimp only at q'; rw [z2]; rw [z1] at q'; exact q'
          · dsimp only at q'; rw [z2]; rw [z1] at q'; exact q'
      · split at c
        · rename_i x' ys e1 e2
          split at c
          · rename_i hs
            cases c
            exact h4 pins s σ H _ _ v u Q I rx ry ⟨x', ys, D.pyH_dp ok ra e1, D.pyH_dp ok rb e2, hs.1, hs.2, q'⟩
          · cases c
        · cases c
    · cases c
theorem o_in (hu : X.A.units + 65 < cLine) : OpR X (compareOp .In) (rD X.K gIn) :=
  o_in_aux (f := fun b => b) hu op_in_str (fun pins s σ H x y v u Q I rx ry h => op_in_seq pins s σ H x y v u Q I rx ry h)
    (fun pins s σ H x y v u Q I rx ry ⟨a, o, e, g, q⟩ => by
      subst e
      cases ry
      exact wpAny_mono (d_in (by omega) I g rx (Q := fun b s' => EP X pins σ Q b s') fun s' I' => ⟨.bl _, H, I', rfl, q⟩) (fun _ _ z => z) fun _ _ z => z) (op_inD hu)
theorem o_notIn (hu : X.A.units + 65 < cLine) : OpR X (compareOp .NotIn) (rD X.K gNotIn) :=
  o_in_aux (f := fun b => !b) hu op_notin_str (fun pins s σ H x y v u Q I rx ry h => op_notIn_seq pins s σ H x y v u Q I rx ry h)
    (fun pins s σ H x y v u Q I rx ry ⟨a, o, e, g, q⟩ => by
      subst e
      cases ry
      exact wpAny_mono (d_notIn (by omega) I g rx (Q := fun b s' => EP X pins σ Q b s') fun s' I' => ⟨.bl _, H, I', rfl, q⟩) (fun _ _ z => z) fun _ _ z => z) (op_notInD hu)
end

/-! ### subscripts -/
def seqItems (d : D) (h : LH) : Option (List D) := match d with
  | .tup ds => some ds
  | .ref i => match h[i]? with
    | some (.lst ds) => some ds
    | some (.rls ds) => some ds
    | _ => none
  | _ => none
def ixD (h : LH) (a b : D) : Option D := match a, b with
  | .str z, .int i => if z.length ≤ sizeLine then (atI z.cps.toList i).map fun c => .str ⟨#[c]⟩ else none
  | .tup ds, .int i => atI ds i
  | .ref r, b => match h[r]? with
    | some (.lst ds) => (match b with | .int i => atI ds i | _ => none)
    | some (.rls ds) => (match b with | .int i => atI ds i | _ => none)
    | some (.dic kvs) => (dKey b).bind fun k => valD kvs k
    | none => none
  | _, _ => none
def gIx (a b : D) (h : LH) : Option (D × LH) := (ixD h a b).map fun d => (d, h)
theorem Reps.atI {K : PySem.W.Frag} {ρ : List Addr} {H : Hp} {ds : List D} {vs : List V} (r : Reps K ρ H ds vs) {i : Int} {d : D} (h : L2.atI ds i = some d) : ∃ v, L2.atI vs i = some v ∧ Rep K ρ H d v := by
  unfold L2.atI at h ⊢
  rw [← r.length]
  cases q : ixN ds.length i with
  | none => rw [q] at h; cases h
  | some j =>
    rw [q] at h
    obtain ⟨v, hv, rv⟩ := r.get h
    exact ⟨v, hv, rv⟩
section
variable {X : Cx}
theorem ix_dict (hu : X.A.units + 1 < cLine) : IxR X (fun x y H Q => ∃ a v, x = .ref a ∧ DGet H a y (some v) ∧ Q v H) := by
  intro value slice pins s σ H x y v u Q I rx ry h hs
  obtain ⟨a, w, rfl, g, q⟩ := h
  cases rx
  exact tail_any (dict_typeIs I g) PySem.F.slot_dict_getitem.lookup (d_getItem hu I g ry fun w' s' I' rw' => ⟨w, H, I', rw', q⟩) hs
theorem o_ix (hu : X.A.units + 1 < cLine) : IxR X (rD X.K gIx) := by
  intro value slice pins s σ H x y v u Q I rx ry h hs
  obtain ⟨ρ, lh, a, b, d, lh', ok, ra, rb, e, q⟩ := h
  unfold gIx at e
  cases c : ixD lh a b with
  | none => rw [c] at e; cases e
  | some d' =>
    rw [c] at e
    cases e
    unfold ixD at c
    split at c
    · rename_i z i
      cases ra; cases rb
      split at c
      · rename_i hz
        cases q1 : L2.atI z.cps.toList i with
        | none => rw [q1] at c; cases c
        | some w =>
          rw [q1] at c
          cases c
          exact ix_str value slice pins s σ H _ _ v u Q I rx ry ⟨z, i, w, rfl, rfl, hz, q1, q _ ρ H Ext.refl ok rfl⟩ hs
      · cases c
    · rename_i ds i
      cases rb
      obtain ⟨p, vs, rfl, hsq, hr⟩ := ra
      obtain ⟨w, hw, rw'⟩ := hr.atI c
      exact ix_tup value slice pins s σ H _ _ v u Q I rx ry ⟨p, vs, i, w, rfl, rfl, hsq.sq, hw, q w ρ H Ext.refl ok rw'⟩ hs
    · rename_i r
      split at c
      · rename_i ds e1
        obtain ⟨p, rfl, hp, vs, hv, hr⟩ := ok.obj ra e1
        split at c
        · rename_i i
          cases rb
          obtain ⟨w, hw, rw'⟩ := hr.atI c
          exact ix_list value slice pins s σ H _ _ v u Q I rx ry ⟨p, vs, i, w, rfl, rfl, SqL.of hv, hw, q w ρ H Ext.refl ok rw'⟩ hs
        · cases c
      · rename_i ds e1
        obtain ⟨p, rfl, hp, vs, hv, hr⟩ := ok.obj ra e1
        split at c
        · rename_i i
          cases rb
          obtain ⟨w, hw, rw'⟩ := hr.atI c
          exact ix_list value slice pins s σ H _ _ v u Q I rx ry ⟨p, vs, i, w, rfl, rfl, hv.sq, hw, q w ρ H Ext.refl ok rw'⟩ hs
        · cases c
      · rename_i kvs e1
        obtain ⟨p, rfl, hp, vs, hv, hr⟩ := ok.obj ra e1
        cases ek : dKey b with
        | none => rw [ek] at c; cases c
        | some ky =>
          rw [ek] at c
          have := rep_key rb ek
          subst this
          rcases hr.val ky with ⟨z1, z2⟩ | ⟨d1, v1, z1, z2, z3⟩
          · rw [show (some ky).bind (fun k => valD kvs k) = valD kvs ky from rfl, z1] at c; cases c
          · rw [show (some ky).bind (fun k => valD kvs k) = valD kvs ky from rfl, z1] at c
            cases c
            exact ix_dict hu value slice pins s σ H _ _ v u Q I rx ry ⟨p, v1, rfl, by rw [← z2]; exact DGet.k hv, q v1 ρ H Ext.refl ok z3⟩ hs
      · cases c
    · cases c
end

/-! ### slices -/
def cutL {α : Type} (xs : List α) (lo hi : Option Int) : List α := (xs.drop (HT.sIx xs.length 0 lo)).take (HT.sIx xs.length xs.length hi - HT.sIx xs.length 0 lo)
theorem cut_len {α : Type} (xs : List α) (lo hi : Option Int) : (cutL xs lo hi).length ≤ xs.length := by
  unfold cutL
  rw [List.length_take, List.length_drop]
  omega
/-- a part of a slice -/
def partD (d : Option D) : Option (Option Int) := match d with
  | none => some none
  | some (.int i) => some (some i)
  | _ => none
def gSl (a : D) (lo hi : Option Int) (h : LH) : Option (D × LH) := match a with
  | .tup ds => some (.tup (cutL ds lo hi), h)
  | .str z => if z.length ≤ sizeLine then some (.str (cutS z lo hi), h) else none
  | .ref r => match h[r]? with
    | some (.lst ds) => some (.ref h.length, h ++ [.lst (cutL ds lo hi)])
    | some (.rls ds) => some (.ref h.length, h ++ [.lst (cutL ds lo hi)])
    | _ => none
  | _ => none
abbrev OM := DSt → LH → Option (R (Option Int))
def oNone : OM := fun _ h => some (.ok none h)
def oSome (m : EM) : OM := fun δ h => bnd (m δ h) fun d h1 => match d with
  | .int i => some (.ok (some i) h1)
  | _ => none
def eSl (m : EM) (lo hi : OM) : EM := fun δ h => bnd (m δ h) fun d h1 => bnd (lo δ h1) fun l h2 => bnd (hi δ h2) fun u h3 => opt (gSl d l u h3)
section
variable {X : Cx} {W : WX}
def liftO (K : PySem.W.Frag) (mg : Str → Option Value) (W : WX) (m : OM) : TO := fun σ H Q => ∃ ρ δ lh, StR K ρ H δ σ ∧ LhOk K ρ H lh ∧ Fin K mg W σ ρ H (m δ lh) fun o _ _ H' => Q o H'
abbrev IO (X : Cx) (W : WX) (e : Option Expr) (m : OM) : Prop := PO X e (liftO X.K X.mg W m)
theorem _root_.L2.PO.wk {e : Option Expr} {t t' : TO} (h : PO X e t) (k : ∀ σ H Q, t' σ H Q → t σ H Q) : PO X e t' := ⟨fun pins s σ H Q I q => h.run pins s σ H Q I (k σ H Q q)⟩
theorem io_none : IO X W none oNone := po_none.wk fun σ H Q ⟨ρ, δ, lh, st, ok, h⟩ => h ρ H Ext.refl ok
theorem io_some {e : Expr} {m : EM} (he : IE X W e m) : IO X W (some e) (oSome m) := (po_some he).wk fun σ H Q ⟨ρ, δ, lh, st, ok, h⟩ => ⟨ρ, δ, lh, st, ok, (Fin.bnd h).imp fun d lh1 ρ1 H1 e1 ok1 h1 v r1 => by
  cases d with
  | int i => exact ⟨i, r1, h1 ρ1 H1 Ext.refl ok1⟩
  | _ => exact h1.elim⟩
def rSlD (K : PySem.W.Frag) : V → Option Int → Option Int → Hp → VK → Prop := fun x lo hi H Q => ∃ ρ lh a d lh', LhOk K ρ H lh ∧ Rep K ρ H a x ∧ gSl a lo hi lh = some (d, lh') ∧
  ∀ v ρ' H', Ext K ρ ρ' H H' → LhOk K ρ' H' lh' → Rep K ρ' H' d v → Q v H'
theorem reps_cut {K : PySem.W.Frag} {ρ : List Addr} {H : Hp} {ds : List D} {vs : List V} (r : Reps K ρ H ds vs) (lo hi : Option Int) : Reps K ρ H (cutL ds lo hi) (cutV vs lo hi) := by
  unfold cutL cutV
  rw [r.length]
  exact (r.drop _).take _
theorem sl_tupN : SlR X (fun x lo hi H Q => ∃ a xs, x = .ref a ∧ SqT X.K H a xs ∧ (HT.sIx xs.length 0 lo = 0 ∧ HT.sIx xs.length xs.length hi = xs.length → Q (.ref a) H) ∧
    (¬ (HT.sIx xs.length 0 lo = 0 ∧ HT.sIx xs.length xs.length hi = xs.length) → ∀ p o, o.dict = none → H p = none → Q (.ref p) (upd H p (.frz o (.tup (cutV xs lo hi)))))) := by
  intro pins s σ H x v vl vu lo hi sl Q I rx hs pl pu h
  obtain ⟨a, xs, rfl, hx, q1, q2⟩ := h
  cases rx
  obtain ⟨its, r, ht, hz⟩ := I.tuple hx
  have hlen : its.toArray.size = xs.length := by rw [List.size_toArray]; exact r.length.symm
  refine ⟨"tuple", _, PyProof.Rows.slot_tuple_getitem.lookup, ht.typeIs, ?_⟩
  by_cases hw : HT.sIx xs.length 0 lo = 0 ∧ HT.sIx xs.length xs.length hi = xs.length
  · exact getItem_tuple_whole ht hs pl pu (by rw [hlen]; exact hw) ⟨.ref a, H, I, rfl, q1 hw⟩
  · refine HT.getItem_tuple_cut ht hs pl pu (by rw [hlen]; exact hw) ?_ (by rw [hlen]; exact hz)
    rw [hlen]
    refine ⟨.ref s.heap.objs.size, _, I.laid (t' := s.toks) (o := .frz { cls := .type "tuple", data := .seq ((its.drop (HT.sIx xs.length 0 lo)).take (HT.sIx xs.length xs.length hi - HT.sIx xs.length 0 lo)).toArray } (.tup (cutV xs lo hi))) (fun b ob q => Heap.get?_push_of_some _ q) (Nat.le_refl _) ?_, rfl, q2 hw _ _ rfl (I.hok.fresh (Nat.le_refl _))⟩
    exact ⟨Heap.get?_push_size _ rfl, Nat.le_trans (cutV_length xs lo hi) hz, _, (r.drop (HT.sIx xs.length 0 lo)).take (HT.sIx xs.length xs.length hi - HT.sIx xs.length 0 lo), IsTup.new _ _⟩
theorem o_sl : SlR X (rSlD X.K) := by
  intro pins s σ H x v vl vu lo hi sl Q I rx hs pl pu h
  obtain ⟨ρ, lh, a, d, lh', ok, ra, e, q⟩ := h
  unfold gSl at e
  split at e
  · rename_i ds
    cases e
    obtain ⟨p, vs, rfl, hsq, hr⟩ := ra
    refine sl_tupN pins s σ H _ v vl vu lo hi sl Q I rx hs pl pu ⟨p, vs, rfl, hsq.sq, fun w => ?_, fun w p' o ho hp' => ?_⟩
    · refine q _ ρ H Ext.refl ok ⟨p, vs, rfl, hsq, ?_⟩
      have z := reps_cut hr lo hi
      have : cutV vs lo hi = vs := by
        unfold cutV
        rw [w.1, w.2]
        simp
      rw [this] at z
      exact z
    · exact q _ ρ _ (Ext.new hp') (ok.grow hp') ⟨p', _, rfl, .inl ⟨o, upd_same, ho⟩, Reps.mono (Ext.new hp') _ _ (reps_cut hr lo hi)⟩
  · rename_i z
    cases ra
    split at e
    · rename_i hz
      cases e
      exact sl_str pins s σ H _ v vl vu lo hi sl Q I rx hs pl pu ⟨z, rfl, hz, q _ ρ H Ext.refl ok rfl⟩
    · cases e
  · rename_i r
    split at e
    · rename_i ds e1
      cases e
      obtain ⟨p, rfl, hp, vs, hv, hr⟩ := ok.obj ra e1
      refine sl_list pins s σ H _ v vl vu lo hi sl Q I rx hs pl pu ⟨p, vs, rfl, SqL.of hv, fun p' hp' => ?_⟩
      exact q _ (ρ ++ [p']) _ (Ext.newR hp') (ok.push hp' ⟨_, upd_same, Reps.mono (Ext.newR hp') _ _ (reps_cut hr lo hi)⟩) ⟨p', rfl, by rw [← ok.len]; simp⟩
    · rename_i ds e1
      cases e
      obtain ⟨p, rfl, hp, vs, hv, hr⟩ := ok.obj ra e1
      refine sl_list pins s σ H _ v vl vu lo hi sl Q I rx hs pl pu ⟨p, vs, rfl, hv.sq, fun p' hp' => ?_⟩
      exact q _ (ρ ++ [p']) _ (Ext.newR hp') (ok.push hp' ⟨_, upd_same, Reps.mono (Ext.newR hp') _ _ (reps_cut hr lo hi)⟩) ⟨p', rfl, by rw [← ok.len]; simp⟩
    · cases e
  · cases e
theorem i_sl {e : Expr} {lo hi : Option Expr} {m : EM} {ml mh : OM} {p2 pos : Pos} (he : IE X W e m) (hl : IO X W lo ml) (hh : IO X W hi mh) : IE X W (.Subscript e (.Slice lo hi none p2) pos) (eSl m ml mh) :=
  (pe_slice o_sl he hl hh).wk fun σ H Q ⟨ρ, δ, lh, st, ok, h⟩ => ⟨ρ, δ, lh, st, ok, (Fin.bnd h).imp fun d lh1 ρ1 H1 e1 ok1 h1 v r1 =>
    ⟨ρ1, δ, lh1, st.mono e1, ok1, (Fin.bnd h1).imp fun l lh2 ρ2 H2 e2 ok2 h2 => ⟨ρ2, δ, lh2, (st.mono e1).mono e2, ok2, (Fin.bnd h2).imp fun u lh3 ρ3 H3 e3 ok3 h3 => by
      cases q : gSl d l u lh3 with
      | none => rw [q] at h3; exact h3.elim
      | some z =>
        obtain ⟨d', lh'⟩ := z
        rw [q] at h3
        exact ⟨ρ3, lh3, d, d', lh', ok3, Rep.mono (e2.trans e3) _ _ r1, q, fun v ρ' H' e o r => h3 ρ' H' e o v r⟩⟩⟩⟩
end
end DL

/-! DL9: built-ins by name -/
namespace DL
open PySem PySem.Spec PyProof.Rows L2

theorem reps1 {K : PySem.W.Frag} {ρ : List Addr} {H : Hp} {d : D} {vs : List V} (r : Reps K ρ H [d] vs) : ∃ v, vs = [v] ∧ Rep K ρ H d v := by
  obtain ⟨v, r', rfl, h1, h2⟩ := r
  cases h2
  exact ⟨v, rfl, h1⟩
theorem reps2 {K : PySem.W.Frag} {ρ : List Addr} {H : Hp} {d e : D} {vs : List V} (r : Reps K ρ H [d, e] vs) : ∃ v w, vs = [v, w] ∧ Rep K ρ H d v ∧ Rep K ρ H e w := by
  obtain ⟨v, r', rfl, h1, w, r2, rfl, h2, h3⟩ := r
  cases h3
  exact ⟨v, w, rfl, h1, h2⟩
def gLen (ds : List D) (h : LH) : Option (D × LH) := match ds with
  | [.str x] => if x.length ≤ sizeLine then some (.int x.length, h) else none
  | [.tup xs] => some (.int xs.length, h)
  | [.ref i] => match h[i]? with
    | some (.lst xs) => some (.int xs.length, h)
    | some (.rls xs) => some (.int xs.length, h)
    | some (.dic kvs) => some (.int kvs.length, h)
    | none => none
  | _ => none
def gAbs (ds : List D) (h : LH) : Option (D × LH) := match ds with
  | [.int i] => some (.int (if i < 0 then -i else i), h)
  | _ => none
def gInt (ds : List D) (h : LH) : Option (D × LH) := match ds with
  | [.int i] => some (.int i, h)
  | [.bl b] => some (.int (if b then 1 else 0), h)
  | _ => none
def intsD : List D → Option (List Int)
  | [] => some []
  | .int i :: ds => (intsD ds).map (i :: ·)
  | _ => none
def strsD : List D → Option (List Str)
  | [] => some []
  | .str i :: ds => (strsD ds).map (i :: ·)
  | _ => none
def boolsD : List D → Option (List Bool)
  | [] => some []
  | .bl i :: ds => (boolsD ds).map (i :: ·)
  | _ => none
theorem ints_eq : ∀ {ds : List D} {ns : List Int}, intsD ds = some ns → ds = ns.map .int
  | [], _, e => by cases e; rfl
  | .int i :: ds, _, e => by
    unfold intsD at e
    cases q : intsD ds with
    | none => rw [q] at e; cases e
    | some ns => rw [q] at e; cases e; rw [ints_eq q]; rfl
  | .non :: _, _, e => by cases e
  | .bl _ :: _, _, e => by cases e
  | .str _ :: _, _, e => by cases e
  | .tup _ :: _, _, e => by cases e
  | .raw _ :: _, _, e => by cases e
  | .ref _ :: _, _, e => by cases e
theorem strsD_eq : ∀ {ds : List D} {ns : List Str}, strsD ds = some ns → ds = ns.map .str
  | [], _, e => by cases e; rfl
  | .str i :: ds, _, e => by
    unfold strsD at e
    cases q : strsD ds with
    | none => rw [q] at e; cases e
    | some ns => rw [q] at e; cases e; rw [strsD_eq q]; rfl
  | .non :: _, _, e => by cases e
  | .bl _ :: _, _, e => by cases e
  | .int _ :: _, _, e => by cases e
  | .tup _ :: _, _, e => by cases e
  | .raw _ :: _, _, e => by cases e
  | .ref _ :: _, _, e => by cases e
theorem bools_eq : ∀ {ds : List D} {ns : List Bool}, boolsD ds = some ns → ds = ns.map .bl
  | [], _, e => by cases e; rfl
  | .bl i :: ds, _, e => by
    unfold boolsD at e
    cases q : boolsD ds with
    | none => rw [q] at e; cases e
    | some ns => rw [q] at e; cases e; rw [bools_eq q]; rfl
  | .non :: _, _, e => by cases e
  | .int _ :: _, _, e => by cases e
  | .str _ :: _, _, e => by cases e
  | .tup _ :: _, _, e => by cases e
  | .raw _ :: _, _, e => by cases e
  | .ref _ :: _, _, e => by cases e
@[simp] theorem ints_map (ns : List Int) : intsD (ns.map .int) = some ns := by
  induction ns with
  | nil => rfl
  | cons n ns ih => simp [intsD, ih]
@[simp] theorem strsD_map (ns : List Str) : strsD (ns.map .str) = some ns := by
  induction ns with
  | nil => rfl
  | cons n ns ih => simp [strsD, ih]
@[simp] theorem bools_map (ns : List Bool) : boolsD (ns.map .bl) = some ns := by
  induction ns with
  | nil => rfl
  | cons n ns ih => simp [boolsD, ih]
section
variable {K : PySem.W.Frag} {ρ : List Addr} {H : Hp}
theorem reps_ints : ∀ {ns : List Int} {vs : List V}, Reps K ρ H (ns.map .int) vs ↔ vs = ns.map V.int
  | [], vs => by simp [Reps]
  | n :: ns, vs => by
    simp only [List.map_cons, Reps]
    constructor
    · rintro ⟨v, r, rfl, h1, h2⟩
      cases h1
      rw [reps_ints.mp h2]
    · rintro rfl
      exact ⟨_, _, rfl, rfl, reps_ints.mpr rfl⟩
theorem reps_strs : ∀ {ns : List Str} {vs : List V}, Reps K ρ H (ns.map .str) vs ↔ vs = ns.map V.str
  | [], vs => by simp [Reps]
  | n :: ns, vs => by
    simp only [List.map_cons, Reps]
    constructor
    · rintro ⟨v, r, rfl, h1, h2⟩
      cases h1
      rw [reps_strs.mp h2]
    · rintro rfl
      exact ⟨_, _, rfl, rfl, reps_strs.mpr rfl⟩
theorem reps_bools : ∀ {ns : List Bool} {vs : List V}, Reps K ρ H (ns.map .bl) vs ↔ vs = ns.map V.bl
  | [], vs => by simp [Reps]
  | n :: ns, vs => by
    simp only [List.map_cons, Reps]
    constructor
    · rintro ⟨v, r, rfl, h1, h2⟩
      cases h1
      rw [reps_bools.mp h2]
    · rintro rfl
      exact ⟨_, _, rfl, rfl, reps_bools.mpr rfl⟩
end
/-- the items of a list -/
def lstAt (h : LH) (i : Nat) : Option (List D) := match h[i]? with
  | some (.lst ds) => some ds
  | some (.rls ds) => some ds
  | _ => none
theorem LhOk.lst {K : PySem.W.Frag} {ρ : List Addr} {H : Hp} {lh : LH} (ok : LhOk K ρ H lh) {i : Nat} {v : V} {ds : List D} (r : Rep K ρ H (.ref i) v) (e : lstAt lh i = some ds) : ∃ a vs, v = .ref a ∧ ρ[i]? = some a ∧ SqL K H a vs ∧ Reps K ρ H ds vs := by
  unfold lstAt at e
  split at e
  · rename_i ds' q
    cases e
    obtain ⟨a, rfl, ha, vs, hv, hr⟩ := ok.obj r q
    exact ⟨a, vs, rfl, ha, .inl (.inl hv), hr⟩
  · rename_i ds' q
    cases e
    obtain ⟨a, rfl, ha, vs, hv, hr⟩ := ok.obj r q
    exact ⟨a, vs, rfl, ha, hv.sq, hr⟩
  · cases e
def gMax (ds : List D) (h : LH) : Option (D × LH) := match ds with
  | [.int i, .int j] => some (.int (if j > i then j else i), h)
  | [.ref r] => match (lstAt h r).bind intsD with
    | some (n :: ns) => some (.int (ns.foldl max n), h)
    | _ => none
  | _ => none
def gMin2 (ds : List D) (h : LH) : Option (D × LH) := match ds with
  | [.int i, .int j] => some (.int (if j < i then j else i), h)
  | _ => none
def gSum (ds : List D) (h : LH) : Option (D × LH) := match ds with
  | [.ref r] => ((lstAt h r).bind intsD).map fun ns => (.int ns.sum, h)
  | _ => none
def gAll (ds : List D) (h : LH) : Option (D × LH) := match ds with
  | [.ref r] => ((lstAt h r).bind boolsD).map fun bs => (.bl (bs.all id), h)
  | _ => none
def gAny (ds : List D) (h : LH) : Option (D × LH) := match ds with
  | [.ref r] => ((lstAt h r).bind boolsD).map fun bs => (.bl (bs.any id), h)
  | _ => none
def gTuple (ds : List D) (h : LH) : Option (D × LH) := match ds with
  | [.ref r] => (lstAt h r).map fun xs => (.tup xs, h)
  | [.tup xs] => some (.tup xs, h)
  | _ => none
def gList (ds : List D) (h : LH) : Option (D × LH) := match ds with
  | [.ref r] => (lstAt h r).map fun xs => (.ref h.length, h ++ [.lst xs])
  | [.tup xs] => some (.ref h.length, h ++ [.lst xs])
  | _ => none
/-- texts in order -/
def strLe (a b : Str) : Bool := decide (a.cps.toList ≤ b.cps.toList)
def sortS (xs : List Str) : List Str := xs.mergeSort strLe
def keysS : List (Key × D) → Option (List Str)
  | [] => some []
  | (.inr x, _) :: r => (keysS r).map (x :: ·)
  | _ => none
def gSorted (ds : List D) (h : LH) : Option (D × LH) := match ds with
  | [.ref r] => match h[r]? with
    | some (.dic kvs) => match keysS kvs with
      | some ks => if ks.length < 64 then some (.ref h.length, h ++ [.lst ((sortS ks).map .str)]) else none
      | none => none
    | some (.lst xs) => match strsD xs with
      | some ks => if ks.length < 64 then some (.ref h.length, h ++ [.lst ((sortS ks).map .str)]) else none
      | none => none
    | _ => none
  | _ => none
theorem strLe_trans (a b c : Str) (h : strLe a b = true) (k : strLe b c = true) : strLe a c = true := by
  unfold strLe at *
  exact decide_eq_true (List.le_trans (of_decide_eq_true h) (of_decide_eq_true k))
theorem strLe_total (a b : Str) : (strLe a b || strLe b a) = true := by
  unfold strLe
  rw [Bool.or_eq_true]
  rcases List.le_total a.cps.toList b.cps.toList with h | h
  · exact .inl (decide_eq_true h)
  · exact .inr (decide_eq_true h)
theorem strLe_anti (a b : Str) (h : strLe a b = true) (k : strLe b a = true) : a = b := by
  unfold strLe at *
  have e : a.cps.toList = b.cps.toList := List.le_antisymm (of_decide_eq_true h) (of_decide_eq_true k)
  obtain ⟨⟨x⟩⟩ := a
  obtain ⟨⟨y⟩⟩ := b
  simp only at e
  rw [e]
theorem sortS_perm (xs : List Str) : (sortS xs).Perm xs := List.mergeSort_perm _ _
theorem sortS_sorted (xs : List Str) : (sortS xs).Pairwise (fun a b => strLe a b = true) := List.pairwise_mergeSort strLe_trans strLe_total xs
theorem sortS_unique {xs ys : List Str} (p : ys.Perm xs) (s : ys.Pairwise (fun a b => strLe a b = true)) : ys = sortS xs :=
  List.Perm.eq_of_pairwise (fun a b _ _ h k => strLe_anti a b h k) s (sortS_sorted xs) (p.trans (sortS_perm xs).symm)
theorem ltCps_iff : ∀ a b : List Nat, ltCps a b = true ↔ a < b
  | [], [] => by simp [ltCps]
  | [], _ :: _ => by simp [ltCps]
  | _ :: _, [] => by simp [ltCps]
  | a :: r, b :: t => by
    rw [ltCps, List.cons_lt_cons_iff, ← ltCps_iff r t]
    simp
theorem sortedS_pairwise : ∀ {ys : List Str}, PyProof.Rows.sortedS ys = true → ys.Pairwise (fun a b => strLe a b = true) := by
  have go : ∀ (r : List Str) (p : Str), PyProof.Rows.risingS p r = true → (p :: r).Pairwise (fun a b => strLe a b = true) := by
    intro r
    induction r with
    | nil => intro p _; exact List.pairwise_singleton _ _
    | cons x r ih =>
      intro p h
      unfold PyProof.Rows.risingS at h
      rw [Bool.and_eq_true] at h
      have h2 := ih x h.2
      have le : strLe p x = true := by
        unfold strLe
        refine decide_eq_true (List.not_lt.mp fun z => ?_)
        have := (ltCps_iff _ _).mpr z
        rw [this] at h
        exact absurd h.1 (by decide)
      refine List.pairwise_cons.mpr ⟨fun y hy => ?_, h2⟩
      rcases List.mem_cons.mp hy with e | hy
      · subst e; exact le
      · exact strLe_trans _ _ _ le ((List.pairwise_cons.mp h2).1 y hy)
  intro ys h
  cases ys with
  | nil => exact List.Pairwise.nil
  | cons x r => exact go r x h
section
variable {X : Cx}
theorem o_len : CallR X (.builtin "len") (cD X.K gLen) := by
  intro pins s σ H xs us Q I r h
  obtain ⟨ρ, lh, ds, d, lh', ok, rs, e, q⟩ := h
  unfold gLen at e
  split at e
  · rename_i x
    split at e
    · rename_i hz
      cases e
      obtain ⟨v, rfl, rv⟩ := reps1 rs
      cases rv
      exact call_len pins s σ H _ us Q I r ⟨_, _, rfl, ⟨hz, rfl⟩, q _ ρ H Ext.refl ok rfl⟩
    · cases e
  · rename_i xs'
    cases e
    obtain ⟨v, rfl, a, vs, rfl, hs, hr⟩ := reps1 rs
    exact call_len pins s σ H _ us Q I r ⟨_, _, rfl, .inr ⟨vs, hs.sq, hr.length⟩, q _ ρ H Ext.refl ok rfl⟩
  · rename_i i
    obtain ⟨v, rfl, rv⟩ := reps1 rs
    split at e
    · rename_i xs' e1
      cases e
      obtain ⟨a, rfl, ha, vs, hv, hr⟩ := ok.obj rv e1
      exact call_len pins s σ H _ us Q I r ⟨_, _, rfl, .inl ⟨vs, SqL.of hv, hr.length⟩, q _ ρ H Ext.refl ok rfl⟩
    · rename_i xs' e1
      cases e
      obtain ⟨a, rfl, ha, vs, hv, hr⟩ := ok.obj rv e1
      exact call_len pins s σ H _ us Q I r ⟨_, _, rfl, .inl ⟨vs, hv.sq, hr.length⟩, q _ ρ H Ext.refl ok rfl⟩
    · rename_i kvs e1
      cases e
      obtain ⟨a, rfl, ha, vs, hv, hr⟩ := ok.obj rv e1
      exact call_lenD pins s σ H _ us Q I r ⟨a, vs, rfl, hv, q _ ρ H Ext.refl ok (by rw [hr.length]; rfl)⟩
    · cases e
  · cases e
theorem o_abs : CallR X (.builtin "abs") (cD X.K gAbs) := by
  intro pins s σ H xs us Q I r h
  obtain ⟨ρ, lh, ds, d, lh', ok, rs, e, q⟩ := h
  unfold gAbs at e
  split at e
  · cases e
    obtain ⟨v, rfl, rv⟩ := reps1 rs
    cases rv
    exact call_abs pins s σ H _ us Q I r ⟨_, rfl, q _ ρ H Ext.refl ok rfl⟩
  · cases e
theorem o_int : CallR X (.type "int") (cD X.K gInt) := by
  intro pins s σ H xs us Q I r h
  obtain ⟨ρ, lh, ds, d, lh', ok, rs, e, q⟩ := h
  unfold gInt at e
  split at e
  · cases e
    obtain ⟨v, rfl, rv⟩ := reps1 rs
    cases rv
    exact call_int1 pins s σ H _ us Q I r (.inl ⟨_, rfl, q _ ρ H Ext.refl ok rfl⟩)
  · cases e
    obtain ⟨v, rfl, rv⟩ := reps1 rs
    cases rv
    exact call_int1 pins s σ H _ us Q I r (.inr ⟨_, rfl, q _ ρ H Ext.refl ok rfl⟩)
  · cases e
theorem foldl_max_spec : ∀ (ns : List Int) (n : Int), ns.foldl max n ∈ n :: ns ∧ ∀ y ∈ n :: ns, y ≤ ns.foldl max n
  | [], n => by simp
  | m :: ns, n => by
    obtain ⟨h1, h2⟩ := foldl_max_spec ns (max n m)
    rw [List.foldl_cons]
    refine ⟨?_, fun y hy => ?_⟩
    · rcases List.mem_cons.mp h1 with e | e
      · rw [e]
        rcases Int.le_total n m with l | l
        · rw [Int.max_eq_right l]; simp
        · rw [Int.max_eq_left l]; simp
      · simp [e]
    · have h3 := h2 (max n m) List.mem_cons_self
      rcases List.mem_cons.mp hy with e | hy
      · subst e; exact Int.le_trans (Int.le_max_left _ _) h3
      · rcases List.mem_cons.mp hy with e | hy
        · subst e; exact Int.le_trans (Int.le_max_right _ _) h3
        · exact h2 y (List.mem_cons_of_mem _ hy)
theorem o_max (hc : X.calm = true) : CallR X (.builtin "max") (cD X.K gMax) := by
  intro pins s σ H xs us Q I r h
  obtain ⟨ρ, lh, ds, d, lh', ok, rs, e, q⟩ := h
  unfold gMax at e
  split at e
  · cases e
    obtain ⟨v, w, rfl, rv, rw'⟩ := reps2 rs
    cases rv; cases rw'
    exact call_max2 hc pins s σ H _ us Q I r ⟨_, _, rfl, q _ ρ H Ext.refl ok rfl⟩
  · rename_i i
    obtain ⟨v, rfl, rv⟩ := reps1 rs
    split at e
    · rename_i n ns e1
      cases e
      cases e2 : lstAt lh i with
      | none => rw [e2] at e1; cases e1
      | some xs' =>
        rw [e2] at e1
        have e3 := ints_eq (show intsD xs' = some (n :: ns) from e1)
        subst e3
        obtain ⟨a, vs, rfl, ha, hv, hr⟩ := ok.lst rv e2
        have e4 := reps_ints.mp hr
        subst e4
        refine cr_max hc pins s σ H _ us Q I r ⟨a, n :: ns, rfl, hv, by simp, fun m hm hle => ?_⟩
        obtain ⟨f1, f2⟩ := foldl_max_spec ns n
        have em : m = ns.foldl max n := Int.le_antisymm (f2 m hm) (hle _ f1)
        subst em
        exact q _ ρ H Ext.refl ok rfl
    · cases e
  · cases e
theorem o_min2 (hc : X.calm = true) : CallR X (.builtin "min") (cD X.K gMin2) := by
  intro pins s σ H xs us Q I r h
  obtain ⟨ρ, lh, ds, d, lh', ok, rs, e, q⟩ := h
  unfold gMin2 at e
  split at e
  · cases e
    obtain ⟨v, w, rfl, rv, rw'⟩ := reps2 rs
    cases rv; cases rw'
    exact call_min2 hc pins s σ H _ us Q I r ⟨_, _, rfl, q _ ρ H Ext.refl ok rfl⟩
  · cases e
theorem lst_ints {lh : LH} {i : Nat} {ns : List Int} (e : (lstAt lh i).bind intsD = some ns) : lstAt lh i = some (ns.map .int) := by
  cases e2 : lstAt lh i with
  | none => rw [e2] at e; cases e
  | some xs' => rw [e2] at e; rw [ints_eq e]
theorem lst_bools {lh : LH} {i : Nat} {ns : List Bool} (e : (lstAt lh i).bind boolsD = some ns) : lstAt lh i = some (ns.map .bl) := by
  cases e2 : lstAt lh i with
  | none => rw [e2] at e; cases e
  | some xs' => rw [e2] at e; rw [bools_eq e]
theorem o_sum (hc : X.calm = true) : CallR X (.builtin "sum") (cD X.K gSum) := by
  intro pins s σ H xs us Q I r h
  obtain ⟨ρ, lh, ds, d, lh', ok, rs, e, q⟩ := h
  unfold gSum at e
  split at e
  · rename_i i
    cases c : (lstAt lh i).bind intsD with
    | none => rw [c] at e; cases e
    | some ns =>
      rw [c] at e
      cases e
      obtain ⟨v, rfl, rv⟩ := reps1 rs
      obtain ⟨a, vs, rfl, ha, hv, hr⟩ := ok.lst rv (lst_ints c)
      have e4 := reps_ints.mp hr
      subst e4
      exact cr_sum hc pins s σ H _ us Q I r ⟨a, ns, rfl, hv, q _ ρ H Ext.refl ok rfl⟩
  · cases e
theorem o_all (hc : X.calm = true) : CallR X (.builtin "all") (cD X.K gAll) := by
  intro pins s σ H xs us Q I r h
  obtain ⟨ρ, lh, ds, d, lh', ok, rs, e, q⟩ := h
  unfold gAll at e
  split at e
  · rename_i i
    cases c : (lstAt lh i).bind boolsD with
    | none => rw [c] at e; cases e
    | some ns =>
      rw [c] at e
      cases e
      obtain ⟨v, rfl, rv⟩ := reps1 rs
      obtain ⟨a, vs, rfl, ha, hv, hr⟩ := ok.lst rv (lst_bools c)
      have e4 := reps_bools.mp hr
      subst e4
      exact cr_all hc pins s σ H _ us Q I r ⟨a, ns, rfl, hv, q _ ρ H Ext.refl ok rfl⟩
  · cases e
theorem o_any (hc : X.calm = true) : CallR X (.builtin "any") (cD X.K gAny) := by
  intro pins s σ H xs us Q I r h
  obtain ⟨ρ, lh, ds, d, lh', ok, rs, e, q⟩ := h
  unfold gAny at e
  split at e
  · rename_i i
    cases c : (lstAt lh i).bind boolsD with
    | none => rw [c] at e; cases e
    | some ns =>
      rw [c] at e
      cases e
      obtain ⟨v, rfl, rv⟩ := reps1 rs
      obtain ⟨a, vs, rfl, ha, hv, hr⟩ := ok.lst rv (lst_bools c)
      have e4 := reps_bools.mp hr
      subst e4
      exact cr_any hc pins s σ H _ us Q I r ⟨a, ns, rfl, hv, q _ ρ H Ext.refl ok rfl⟩
  · cases e
/-- tuple(xs): the new object is known -/
theorem call_tupleN : CallR X (.type "tuple") (fun xs H Q => ∃ p ys, xs = [.ref p] ∧ ((SqL X.K H p ys ∧ ∀ l o, o.dict = none → H l = none → Q (.ref l) (upd H l (.frz o (.tup ys)))) ∨ (SqT X.K H p ys ∧ Q (.ref p) H))) := by
  intro pins s σ H xs us Q I r h
  obtain ⟨p, ys, rfl, h⟩ := h
  obtain ⟨u, rfl, rx⟩ := vals1 r
  cases rx
  rcases h with ⟨hq, q⟩ | ⟨hq, q⟩
  · obtain ⟨its, r', pl, hz⟩ := I.list hq
    have hlen := r'.length
    refine call_tuple_list pl.isList (fun h' kp => ?_) (by simp only [List.size_toArray] <;> omega)
    have I1 : Inv X pins σ H { s with heap := h' } := I.kept (t' := s.toks) kp
    have I2 : Inv X pins σ (upd H h'.objs.size (.frz { cls := .type "tuple", data := .seq its.toArray } (.tup ys))) { s with heap := h'.push { cls := .type "tuple", data := .seq its.toArray } } :=
      I1.laid (t' := s.toks) (fun b o e => Heap.get?_push_of_some _ e) (Nat.le_refl _) (show ObjOk X.prog X.w _ _ _ (.frz _ (.tup ys)) from ⟨Heap.get?_push_size _ rfl, hz, its, r', IsTup.new _ _⟩)
    exact ⟨.ref h'.objs.size, _, I2, rfl, q _ _ rfl (I1.hok.fresh (Nat.le_refl _))⟩
  · obtain ⟨its, r', pl, hz⟩ := I.tuple hq
    exact call_tuple_same pl ⟨.ref p, H, I, rfl, q⟩
theorem o_tuple : CallR X (.type "tuple") (cD X.K gTuple) := by
  intro pins s σ H xs us Q I r h
  obtain ⟨ρ, lh, ds, d, lh', ok, rs, e, q⟩ := h
  unfold gTuple at e
  split at e
  · rename_i i
    cases c : lstAt lh i with
    | none => rw [c] at e; cases e
    | some ns =>
      rw [c] at e
      cases e
      obtain ⟨v, rfl, rv⟩ := reps1 rs
      obtain ⟨a, vs, rfl, ha, hv, hr⟩ := ok.lst rv c
      refine call_tupleN pins s σ H _ us Q I r ⟨a, vs, rfl, .inl ⟨hv, fun p o ho hp => ?_⟩⟩
      exact q _ ρ _ (Ext.new hp) (ok.grow hp) ⟨p, vs, rfl, .inl ⟨o, upd_same, ho⟩, Reps.mono (Ext.new hp) _ _ hr⟩
  · cases e
    obtain ⟨v, rfl, a, vs, rfl, hs, hr⟩ := reps1 rs
    exact call_tupleN pins s σ H _ us Q I r ⟨a, vs, rfl, .inr ⟨hs.sq, q _ ρ H Ext.refl ok ⟨a, vs, rfl, hs, hr⟩⟩⟩
  · cases e
theorem o_list : CallR X (.type "list") (cD X.K gList) := by
  intro pins s σ H xs us Q I r h
  obtain ⟨ρ, lh, ds, d, lh', ok, rs, e, q⟩ := h
  unfold gList at e
  split at e
  · rename_i i
    cases c : lstAt lh i with
    | none => rw [c] at e; cases e
    | some ns =>
      rw [c] at e
      cases e
      obtain ⟨v, rfl, rv⟩ := reps1 rs
      obtain ⟨a, vs, rfl, ha, hv, hr⟩ := ok.lst rv c
      refine call_list_of pins s σ H _ us Q I r ⟨a, vs, rfl, .inl hv, fun p hp => ?_⟩
      exact q _ (ρ ++ [p]) _ (Ext.newR hp) (ok.push hp ⟨vs, upd_same, Reps.mono (Ext.newR hp) _ _ hr⟩) ⟨p, rfl, by rw [← ok.len]; simp⟩
  · cases e
    obtain ⟨v, rfl, a, vs, rfl, hs, hr⟩ := reps1 rs
    refine call_list_of pins s σ H _ us Q I r ⟨a, vs, rfl, .inr hs.sq, fun p hp => ?_⟩
    exact q _ (ρ ++ [p]) _ (Ext.newR hp) (ok.push hp ⟨vs, upd_same, Reps.mono (Ext.newR hp) _ _ hr⟩) ⟨p, rfl, by rw [← ok.len]; simp⟩
  · cases e
theorem keysS_eq {K : PySem.W.Frag} {ρ : List Addr} {H : Hp} : ∀ {kvs : List (Key × D)} {vs : List (Key × V)} {ks : List Str}, keysS kvs = some ks → RepK K ρ H kvs vs → vs.map (·.1) = ks.map Sum.inr
  | [], _, _, e, r => by cases e; cases r; rfl
  | (.inr x, d) :: kvs, _, _, e, r => by
    obtain ⟨v, r', rfl, h1, h2⟩ := r
    unfold keysS at e
    cases q : keysS kvs with
    | none => rw [q] at e; cases e
    | some ks => rw [q] at e; cases e; simp [keysS_eq q h2]
  | (.inl x, d) :: kvs, _, _, e, r => by cases e
theorem o_sorted (hc : X.calm = true) : CallR X (.builtin "sorted") (cD X.K gSorted) := by
  intro pins s σ H xs us Q I r h
  obtain ⟨ρ, lh, ds, d, lh', ok, rs, e, q⟩ := h
  unfold gSorted at e
  split at e
  · rename_i i
    obtain ⟨v, rfl, rv⟩ := reps1 rs
    split at e
    · rename_i kvs e1
      split at e
      · rename_i ks e2
        split at e
        · rename_i hz
          cases e
          obtain ⟨a, rfl, ha, vs, hv, hr⟩ := ok.obj rv e1
          refine call_sortedD hc pins s σ H _ us Q I r ⟨a, vs, ks, rfl, .inl hv, keysS_eq e2 hr, hz, fun ys p hp hs hn => ?_⟩
          have ey := sortS_unique hp (sortedS_pairwise hs)
          subst ey
          exact q _ (ρ ++ [p]) _ (Ext.newR hn) (ok.push hn ⟨_, upd_same, reps_strs.mpr rfl⟩) ⟨p, rfl, by rw [← ok.len]; simp⟩
        · cases e
      · cases e
    · rename_i xs' e1
      split at e
      · rename_i ks e2
        split at e
        · rename_i hz
          cases e
          have e3 := strsD_eq e2
          subst e3
          obtain ⟨a, rfl, ha, vs, hv, hr⟩ := ok.obj rv e1
          have e4 := reps_strs.mp hr
          subst e4
          refine cr_sortedS pins s σ H _ us Q I r ⟨a, ks, rfl, SqL.of hv, hz, fun ys p hp hs hn => ?_⟩
          have ey := sortS_unique hp (sortedS_pairwise hs)
          subst ey
          exact q _ (ρ ++ [p]) _ (Ext.newR hn) (ok.push hn ⟨_, upd_same, reps_strs.mpr rfl⟩) ⟨p, rfl, by rw [← ok.len]; simp⟩
        · cases e
      · cases e
    · cases e
  · cases e
end
end DL

/-! DL10: isinstance, dicts made, read, written, lists written, methods, zip, range(a, b) -/
namespace DL
open PySem PySem.Spec PyProof.Rows L2

/-! ### isinstance -/
def tyN (d : D) (h : LH) : Option String := match d with
  | .non => some "NoneType"
  | .bl _ => some "bool"
  | .int _ => some "int"
  | .str _ => some "str"
  | .tup _ => some "tuple"
  | .ref i => match h[i]? with
    | some (.lst _) => some "list"
    | some (.rls _) => some "list"
    | some (.dic _) => some "dict"
    | none => none
  | .raw _ => none
def tys : List String := ["NoneType", "bool", "int", "str", "tuple", "list", "dict"]
def isiB (t T : String) : Bool := t == T || (t == "bool" && T == "int")
theorem kit_all : ∀ t ∈ tys, ∀ T ∈ tys.tail, kitB t T = some (isiB t T) := by decide +kernel
theorem boot_all : ∀ T ∈ tys.tail, bootBuiltins (Str.ofString T) = some (.type T) := by decide +kernel
theorem tyN_mem {d : D} {h : LH} {t : String} (e : tyN d h = some t) : t ∈ tys := by
  unfold tyN at e
  split at e
  · cases e; decide
  · cases e; decide
  · cases e; decide
  · cases e; decide
  · cases e; decide
  · split at e <;> first | (cases e; done) | (cases e; decide)
  · cases e
theorem tyX_ok {K : PySem.W.Frag} {ρ : List Addr} {H : Hp} {lh : LH} {d : D} {v : V} {t : String} (ok : LhOk K ρ H lh) (r : Rep K ρ H d v) (e : tyN d lh = some t) : TyX K H v (.type t) := by
  cases d with
  | non => cases r; cases e; exact .base .non
  | bl b => cases r; cases e; exact .base (.bl b)
  | int i => cases r; cases e; exact .base (.int i)
  | str x => cases r; cases e; exact .base (.str x)
  | tup ds =>
    obtain ⟨a, vs, rfl, hs, _⟩ := r
    cases e
    rcases hs with ⟨o, h, _⟩ | ⟨o, its, n, h1, h2, _⟩
    · exact .fTuple h
    · exact .kTuple h1 h2
  | raw ds => cases e
  | ref i =>
    unfold tyN at e
    simp only at e
    split at e
    · rename_i q; cases e
      obtain ⟨a, rfl, _, vs, hv, _⟩ := ok.obj r q
      exact .base (.lst hv)
    · rename_i q; cases e
      obtain ⟨a, rfl, _, vs, hv, _⟩ := ok.obj r q
      rcases hv with ⟨o, hv⟩ | ⟨o, its, n, h1, h2, _⟩
      · exact .base (.frz hv)
      · exact .kList h1 h2
    · rename_i q; cases e
      obtain ⟨a, rfl, _, vs, hv, _⟩ := ok.obj r q
      exact .base (.dK hv)
    · cases e
def gIsi (Ts : List String) (d : D) (h : LH) : Option (D × LH) := (tyN d h).map fun t => (.bl (Ts.any (isiB t)), h)
section
variable {X : Cx} {W : WX} {pos : Pos}
/-- isinstance(x, T), T a built-in class -/
theorem i_isi {e : Expr} {m : EM} (T : String) {x : Str} {p p2 : Pos} (he : IE X W e m) (hT : T ∈ tys.tail) (hi : X.mg "isinstance" = none) (hm : X.mg x = none) (hv : bootBuiltins x = some (.type T)) (hg : Gl X "isinstance" := by rfl) (hgx : Gl X x := by rfl) (hnx : x ≠ "__name__" := by decide) (hdx : (x == ("__debug__" : Str)) = false := by decide)
    (hs : starEach [e, .Name x p2] X.env = (false, eval e X.env) :: starEach [.Name x p2] X.env := by rfl) (hpl : (backTo pos (starEach [.Name x p2] X.env)).any (·.1) = false := by rfl) (hs2 : starEach [.Name x p2] X.env = (false, eval (.Name x p2) X.env) :: starEach [] X.env := by rfl) :
    IE X W (.Call (.Name "isinstance" p) [e, .Name x p2] [] pos) (eUn (gIsi [T]) m) :=
  (pe_callB call_isi hg hi boot_isinstance (pa_cons he (pa_cons (pe_bltn (v := .ty T) hgx hm hv rfl hnx hdx) pa_nil hs2) hs) (he := hs) (hpl := hpl)).wk fun σ H Q ⟨ρ, δ, lh, st, ok, h⟩ => ⟨ρ, δ, lh, st, ok, (Fin.bnd h).imp fun d lh1 ρ1 H1 e1 ok1 h1 v r1 => by
    unfold gIsi at h1
    cases q : tyN d lh1 with
    | none => rw [q] at h1; exact h1.elim
    | some t =>
      rw [q] at h1
      refine ⟨v, .ty T, .type t, .type T, isiB t T, rfl, .ty T, tyX_ok ok1 r1 q, kit_ty (kit_all t (tyN_mem q) T hT), ?_⟩
      have := h1 ρ1 H1 Ext.refl ok1 _ rfl
      simpa [List.any] using this⟩
theorem kitAny_two {K : PySem.W.Frag} {t a b : String} {p q : Bool} (h1 : kitB t a = some p) (h2 : kitB t b = some q) : PySem.W.kitAny K (.type t) [.type a, .type b] = some (p || q) :=
  kitAny_cons (kit_ty h1) (fun e => by subst e; exact kitAny_cons (r := q) (kit_ty h2) (fun e => by subst e; rfl) (fun e => e)) (fun e => by subst e; rfl)
/-- isinstance(x, (T, U)) -/
theorem i_isi2 {e : Expr} {m : EM} (T U : String) {x y : Str} {k : Nat} {p p2 p3 p4 : Pos} (he : IE X W e m) (hT : T ∈ tys.tail) (hU : U ∈ tys.tail) (hi : X.mg "isinstance" = none) (hm : X.mg x = none) (hm2 : X.mg y = none) (hv : bootBuiltins x = some (.type T)) (hv2 : bootBuiltins y = some (.type U)) (hg : Gl X "isinstance" := by rfl) (hgx : Gl X x := by rfl) (hgy : Gl X y := by rfl)
    (hnx : x ≠ "__name__" := by decide) (hdx : (x == ("__debug__" : Str)) = false := by decide) (hny : y ≠ "__name__" := by decide) (hdy : (y == ("__debug__" : Str)) = false := by decide)
    (hs : starEach [e, .Tuple [.Name x p2, .Name y p3] k p4] X.env = (false, eval e X.env) :: starEach [.Tuple [.Name x p2, .Name y p3] k p4] X.env := by rfl) (hpl : (backTo pos (starEach [.Tuple [.Name x p2, .Name y p3] k p4] X.env)).any (·.1) = false := by rfl) (hs2 : starEach [.Tuple [.Name x p2, .Name y p3] k p4] X.env = (false, eval (.Tuple [.Name x p2, .Name y p3] k p4) X.env) :: starEach [] X.env := by rfl)
    (ht1 : starEach [.Name x p2, .Name y p3] X.env = (false, eval (.Name x p2) X.env) :: starEach [.Name y p3] X.env := by rfl) (ht2 : starEach [.Name y p3] X.env = (false, eval (.Name y p3) X.env) :: starEach [] X.env := by rfl) :
    IE X W (.Call (.Name "isinstance" p) [e, .Tuple [.Name x p2, .Name y p3] k p4] [] pos) (eUn (gIsi [T, U]) m) :=
  (pe_callB call_isiT hg hi boot_isinstance (pa_cons he (pa_cons (pe_tup (pa_cons (pe_bltn (v := .ty T) hgx hm hv rfl hnx hdx) (pa_cons (pe_bltn (v := .ty U) hgy hm2 hv2 rfl hny hdy) pa_nil ht2) ht1)) pa_nil hs2) hs) (he := hs) (hpl := hpl)).wk fun σ H Q ⟨ρ, δ, lh, st, ok, h⟩ => ⟨ρ, δ, lh, st, ok, (Fin.bnd h).imp fun d lh1 ρ1 H1 e1 ok1 h1 v r1 => by
    unfold gIsi at h1
    cases q : tyN d lh1 with
    | none => rw [q] at h1; exact h1.elim
    | some t =>
      rw [q] at h1
      refine ⟨by show 2 ≤ sizeLine; decide, fun p hp => ⟨v, p, [.ty T, .ty U], .type t, [.type T, .type U], isiB t T || isiB t U, rfl, upd_same, .cons (.ty T) (.cons (.ty U) .nil), tyX_ok (ok1.grow hp) (Rep.mono (Ext.new hp) _ _ r1) q, kitAny_two (kit_all t (tyN_mem q) T hT) (kit_all t (tyN_mem q) U hU), ?_⟩⟩
      have := h1 ρ1 (upd H1 p (.tup [.ty T, .ty U])) (Ext.new hp) (ok1.grow hp) _ rfl
      simpa [List.any] using this⟩
end

/-! ### {}, dict(..) -/
def eNewD : EM := fun _ h => some (.ok (.ref h.length) (h ++ [.dic []]))
def pairsD : List D → Option (List (Key × D))
  | [] => some []
  | .tup [k, d] :: r => match dKey k, pairsD r with
    | some k, some r => some ((k, d) :: r)
    | _, _ => none
  | _ => none
def mergeD (acc more : List (Key × D)) : List (Key × D) := more.foldl (fun acc kv => putD acc kv.1 kv.2) acc
def gDict (ds : List D) (h : LH) : Option (D × LH) := match ds with
  | [.ref i] => match h[i]? with
    | some (.dic kvs) => some (.ref h.length, h ++ [.dic kvs])
    | some (.lst xs) => (pairsD xs).map fun kvs => (.ref h.length, h ++ [.dic (mergeD [] kvs)])
    | some (.rls xs) => (pairsD xs).map fun kvs => (.ref h.length, h ++ [.dic (mergeD [] kvs)])
    | none => none
  | [.tup xs] => (pairsD xs).map fun kvs => (.ref h.length, h ++ [.dic (mergeD [] kvs)])
  | _ => none
theorem RepK.merge {K : PySem.W.Frag} {ρ : List Addr} {H : Hp} : ∀ {more : List (Key × D)} {ws : List (Key × V)} {acc : List (Key × D)} {vs : List (Key × V)}, RepK K ρ H more ws → RepK K ρ H acc vs → RepK K ρ H (mergeD acc more) (mergeK vs ws)
  | [], _, _, _, h, g => by cases h; exact g
  | (k, d) :: more, _, acc, vs, h, g => by
    obtain ⟨v, r, rfl, h1, h2⟩ := h
    have := RepK.merge h2 (RepK.put k h1 g)
    exact this
theorem dKey_rep {K : PySem.W.Frag} {ρ : List Addr} {H : Hp} {d : D} {k : Key} {v : V} (e : dKey d = some k) (r : Rep K ρ H d v) : v = kV k := by
  cases d with
  | int i => cases e; exact r
  | str x => cases e; exact r
  | _ => cases e
/-- the pairs that a list or a tuple holds -/
theorem pairs_rep {K : PySem.W.Frag} {ρ : List Addr} {H : Hp} : ∀ {xs : List D} {vs : List V} {kvs : List (Key × D)}, Reps K ρ H xs vs → pairsD xs = some kvs →
    ∃ (ps : List Addr) (ws : List (Key × V)), vs = ps.map V.ref ∧ RepK K ρ H kvs ws ∧ Paired (fun p kv => SqT K H p [kV kv.1, kv.2]) ps ws
  | [], _, _, r, e => by cases r; cases e; exact ⟨[], [], rfl, rfl, .nil⟩
  | x :: xs, _, kvs, r, e => by
    unfold pairsD at e
    split at e
    · rename_i z; cases z
    · rename_i kd d xs' z
      cases z
      split at e
      · rename_i k r' e1 e2
        cases e
        obtain ⟨v, vr, rfl, rv, rr⟩ := r
        obtain ⟨ps, ws, rfl, h1, h2⟩ := pairs_rep rr e2
        obtain ⟨a, us, rfl, hs, hr⟩ := rv
        obtain ⟨u1, u2, rfl, q1, q2⟩ := reps2 hr
        cases dKey_rep e1 q1
        exact ⟨a :: ps, (k, u2) :: ws, rfl, ⟨u2, ws, rfl, q2, h1⟩, .cons hs.sq h2⟩
      · cases e
    · cases e
section
variable {X : Cx}
theorem plain_of {pins : List (Addr × Obj)} {σ : L2.St} {H : Hp} {s : Shared} {a : Addr} {xs : List V} (I : Inv X pins σ H s) (h : SqN X.K H a xs) : ∃ its : List Value, Vals xs its ∧ PlainSeq "tuple" s.heap a its.toArray ∧ xs.length ≤ sizeLine := by
  rcases h with ⟨o, h, hd⟩ | ⟨o, its, n, h1, h2, h3, h4, h5, h6⟩
  · obtain ⟨e, z, its, r, o', e', c, n, hdat⟩ := (show ObjOk X.prog X.w H s.heap a (.frz o (.tup xs)) from I.hok a _ h)
    rw [e] at e'
    cases e'
    exact ⟨its, r, ⟨o, n, e, c, hd, hdat⟩, z⟩
  · exact ⟨its.toList, h6, ⟨o, n, I.kIn a o h1, h2, h3, h4⟩, by rw [h6.length, Array.length_toList]; exact h5⟩
theorem carry_pairs {pins : List (Addr × Obj)} {σ : L2.St} {H : Hp} {s : Shared} (I : Inv X pins σ H s) {ps : List Addr} {kvs : List (Key × V)} (hp : Paired (fun p kv => SqT X.K H p [kV kv.1, kv.2]) ps kvs) :
    ∃ (prs : List (Key × Value)) (qs : List (Value × Value)), KV kvs prs ∧ prs.length = ps.length ∧ qs.length = ps.length ∧ ∀ (j : Nat) (k v : Value), qs[j]? = some (k, v) → (∃ b, ps[j]? = some b ∧ PairAt s.heap b k v) ∧ ∃ q, prs[j]? = some (q, v) ∧ (mixKind X.prog X.w).is q k = true := by
  induction hp with
  | nil => exact ⟨[], [], .nil, rfl, rfl, fun j k v e => by simp at e⟩
  | @cons p kv ps kvs h t ih =>
    obtain ⟨prs, qs, r, hl, hl2, hq⟩ := ih
    obtain ⟨its, rv, ht, _⟩ := I.tuple h
    obtain ⟨u, y, ei, ru, ry⟩ := vals2 rv
    subst ei
    refine ⟨(kv.1, y) :: prs, (u, y) :: qs, .cons ⟨rfl, ry⟩ r, by simp [hl], by simp [hl2], fun j k v e => ?_⟩
    cases j with
    | zero =>
      simp at e
      obtain ⟨rfl, rfl⟩ := e
      exact ⟨⟨p, rfl, .inl ht⟩, kv.1, rfl, kV_is (P := X.prog) (w := X.w) ru⟩
    | succ j =>
      obtain ⟨⟨b, e1, e2⟩, q, e3, e4⟩ := hq j k v (by simpa using e)
      exact ⟨⟨b, by simpa using e1, e2⟩, q, by simpa using e3, e4⟩
/-- dict(t) of a tuple of pairs -/
theorem call_dictT (hcalm : X.calm = true) : CallR X (.type "dict") (fun xs H Q => ∃ (a : Addr) (ps : List Addr) (kvs : List (Key × V)), xs = [.ref a] ∧ SqN X.K H a (ps.map V.ref) ∧ Paired (fun p kv => SqT X.K H p [kV kv.1, kv.2]) ps kvs ∧
    ∀ p, H p = none → Q (.ref p) (upd H p (.dK (mergeK [] kvs)))) := by
  intro pins s σ H xs us Q I r q
  obtain ⟨a, ps, kvs, ex, hq, hp, q⟩ := q
  subst ex
  obtain ⟨u, eu, rx⟩ := vals1 r
  subst eu
  cases rx
  obtain ⟨its, rv, pl, hz⟩ := plain_of I hq
  have ei := refs_at rv
  subst ei
  rw [List.length_map] at hz
  obtain ⟨prs, qs, rel, hl, hl2, hpr⟩ := carry_pairs I hp
  refine PySem.call_dict_pairs (kvs := prs) (PairArg.tuple a (ps.map Value.ref).toArray (fun j => ps.getD j 0) qs) (I.ok.hd hcalm) ⟨pl, by simp [hl2], fun j k v e => ?_⟩ ⟨by rw [hl, hl2], fun j k v e => (hpr j k v e).2⟩ (by rw [hl2]; exact hz) fun h' tk hd' k => ?_
  · obtain ⟨⟨b, e1, e2⟩, _⟩ := hpr j k v e
    have eb : ps.getD j 0 = b := by rw [List.getD_eq_getElem?_getD, e1]; rfl
    show _ ∧ PairAt s.heap (ps.getD j 0) k v
    rw [eb]
    exact ⟨by simp [e1], e2⟩
  · have hm : (s.heap.objs.size == sysModules) = false := beq_eq_false_iff_ne.mpr (Nat.ne_of_gt I.big)
    have hlen : (mergeK [] kvs).length ≤ sizeLine := by
      refine Nat.le_trans (length_mergeK kvs []) ?_
      rw [List.length_nil, Nat.zero_add, rel.length, hl]
      exact hz
    exact ⟨.ref s.heap.objs.size, upd H s.heap.objs.size (.dK (mergeK [] kvs)), I.laid (t' := tk) (fun b o e => k b o (by simp) e) (Nat.le_refl _) (show ObjOk X.prog X.w _ _ _ (.dK (mergeK [] kvs)) from ⟨hlen, hm, merged [] prs, KV.merge rel .nil, hd'⟩), rfl, q _ (I.hok.fresh (Nat.le_refl _))⟩
end
section
variable {X : Cx}
theorem lhs_ref {K : PySem.W.Frag} {ρ : List Addr} {H : Hp} {lh : LH} (ok : LhOk K ρ H lh) {p : Addr} : Rep K (ρ ++ [p]) H (.ref lh.length) (.ref p) := ⟨p, rfl, by rw [← ok.len]; simp⟩
theorem call_dict (hc : X.calm = true) : CallR X (.type "dict") (cD X.K gDict) := by
  intro pins s σ H xs us Q I r ⟨ρ, lh, ds, d, lh', ok, rs, e, q⟩
  have fin : ∀ (kvs : List (Key × D)) (ws : List (Key × V)), RepK X.K ρ H kvs ws → d = .ref lh.length → lh' = lh ++ [.dic kvs] → ∀ p, H p = none → Q (.ref p) (upd H p (.dK ws)) := fun kvs ws rk e1 e2 p hp => by
    subst e1 e2
    exact q (.ref p) (ρ ++ [p]) _ (Ext.newR hp) (ok.push hp ⟨ws, upd_same, RepK.mono (Ext.newR hp) _ _ rk⟩) (lhs_ref ok)
  unfold gDict at e
  split at e
  · rename_i i
    obtain ⟨v, rfl, rv⟩ := reps1 rs
    split at e
    · rename_i kvs z
      cases e
      obtain ⟨a, rfl, ha, ws, hv, hr⟩ := ok.obj rv z
      exact call_dictD pins s σ H _ us Q I r ⟨a, ws, rfl, .inl hv, fin kvs ws hr rfl rfl⟩
    · rename_i xs z
      obtain ⟨a, rfl, ha, vs, hv, hr⟩ := ok.obj rv z
      cases q2 : pairsD xs with
      | none => rw [q2] at e; cases e
      | some kvs =>
        rw [q2] at e
        cases e
        obtain ⟨ps, ws, rfl, h1, h2⟩ := pairs_rep hr q2
        exact call_dictP hc pins s σ H _ us Q I r ⟨a, ps, ws, rfl, .inl (.inl hv), h2, fin _ _ (RepK.merge (acc := []) (vs := []) h1 rfl) rfl rfl⟩
    · rename_i xs z
      obtain ⟨a, rfl, ha, vs, hv, hr⟩ := ok.obj rv z
      cases q2 : pairsD xs with
      | none => rw [q2] at e; cases e
      | some kvs =>
        rw [q2] at e
        cases e
        obtain ⟨ps, ws, rfl, h1, h2⟩ := pairs_rep hr q2
        exact call_dictP hc pins s σ H _ us Q I r ⟨a, ps, ws, rfl, hv.sq, h2, fin _ _ (RepK.merge (acc := []) (vs := []) h1 rfl) rfl rfl⟩
    · cases e
  · rename_i xs
    obtain ⟨v, rfl, rv⟩ := reps1 rs
    obtain ⟨a, vs, rfl, hs, hr⟩ := rv
    cases q2 : pairsD xs with
    | none => rw [q2] at e; cases e
    | some kvs =>
      rw [q2] at e
      cases e
      obtain ⟨ps, ws, rfl, h1, h2⟩ := pairs_rep hr q2
      exact call_dictT hc pins s σ H _ us Q I r ⟨a, ps, ws, rfl, hs, h2, fin _ _ (RepK.merge (acc := []) (vs := []) h1 rfl) rfl rfl⟩
  · cases e
end
section
variable {X : Cx} {W : WX} {pos : Pos}
theorem i_newD : IE X W (.Dict [] [] pos) eNewD :=
  pe_dnewK.wk fun σ H Q ⟨ρ, δ, lh, st, ok, h⟩ p hp => h (ρ ++ [p]) _ (Ext.newR hp) (ok.push hp ⟨[], upd_same, rfl⟩) _ (lhs_ref ok)
/-- d.get(k), d.get(k, x) -/
def getD' (h : LH) (o k : D) : Option (Option D) := match o with
  | .ref i => match h[i]? with
    | some (.dic kvs) => (dKey k).map fun k => valD kvs k
    | _ => none
  | _ => none
def isDic (h : LH) (o : D) : Bool := match o with
  | .ref i => match h[i]? with
    | some (.dic _) => true
    | _ => false
  | _ => false
def eGet2 (mo mk mx : EM) : EM := fun δ h => bnd (mo δ h) fun o h1 => if isDic h1 o = true then bnd (mk δ h1) fun k h2 => bnd (mx δ h2) fun x h3 => match getD' h3 o k with
  | some (some d) => some (.ok d h3)
  | some none => some (.ok x h3)
  | none => none else none
def eGet1 (mo mk : EM) : EM := fun δ h => bnd (mo δ h) fun o h1 => if isDic h1 o = true then bnd (mk δ h1) fun k h2 => match getD' h2 o k with
  | some (some d) => some (.ok d h2)
  | some none => some (.ok .non h2)
  | none => none else none
theorem isDic_ok {K : PySem.W.Frag} {ρ : List Addr} {H : Hp} {lh : LH} {o : D} {v : V} (ok : LhOk K ρ H lh) (r : Rep K ρ H o v) (e : isDic lh o = true) : ∃ a, v = .ref a ∧ IsD H a := by
  cases o with
  | ref i =>
    unfold isDic at e
    simp only at e
    split at e
    · rename_i kvs z
      obtain ⟨a, rfl, ha, ws, hv, hr⟩ := ok.obj r z
      exact ⟨a, rfl, .inl ⟨ws, .inl hv⟩⟩
    · cases e
  | _ => cases e
theorem getD_ok {K : PySem.W.Frag} {ρ : List Addr} {H : Hp} {lh : LH} {o k : D} {a : Addr} {y : V} {z : Option D} (ok : LhOk K ρ H lh) (r : Rep K ρ H o (.ref a)) (rk : Rep K ρ H k y) (e : getD' lh o k = some z) :
    ∃ u, DGet H a y u ∧ ((z = none ∧ u = none) ∨ ∃ d v, z = some d ∧ u = some v ∧ Rep K ρ H d v) := by
  cases o with
  | ref i =>
    unfold getD' at e
    simp only at e
    split at e
    · rename_i kvs q
      obtain ⟨a', ea, ha, ws, hv, hr⟩ := ok.obj r q
      cases ea
      cases q2 : dKey k with
      | none => rw [q2] at e; cases e
      | some ky =>
        rw [q2] at e
        cases e
        cases dKey_rep q2 rk
        refine ⟨_, DGet.k hv, ?_⟩
        rcases RepK.val ky hr with ⟨z1, z2⟩ | ⟨d', v1, z1, z2, z3⟩
        · exact .inl ⟨z1, z2⟩
        · exact .inr ⟨d', v1, z1, z2, z3⟩
    · cases e
  | _ => cases e
theorem i_get2 {o e f : Expr} {mo mk mx : EM} {apos : Pos} (hu : X.A.units + 1 < cLine) (ho : IE X W o mo) (he : IE X W e mk) (hf : IE X W f mx) (m : M2 X o "get" apos e f pos) : IE X W (.Call (.Attribute o "get" apos) [e, f] [] pos) (eGet2 mo mk mx) :=
  (pe_dget2 hu ho he hf m).wk fun σ H Q ⟨ρ, δ, lh, st, ok, h⟩ => ⟨ρ, δ, lh, st, ok, (Fin.bnd h).imp fun d lh1 ρ1 H1 e1 ok1 h1 v r1 => by
    split at h1
    · rename_i hd
      obtain ⟨a, rfl, isd⟩ := isDic_ok ok1 r1 hd
      refine ⟨a, rfl, isd, ρ1, δ, lh1, st.mono e1, ok1, (Fin.bnd h1).imp fun k lh2 ρ2 H2 e2 ok2 h2 y ry => ⟨ρ2, δ, lh2, (st.mono e1).mono e2, ok2, (Fin.bnd h2).imp fun x lh3 ρ3 H3 e3 ok3 h3 z rz => ?_⟩⟩
      cases q : getD' lh3 d k with
      | none => simp only [q] at h3; exact h3.elim
      | some t =>
        obtain ⟨u, g, c⟩ := getD_ok ok3 (Rep.mono e3 _ _ (Rep.mono e2 _ _ r1)) (Rep.mono e3 _ _ ry) q
        refine ⟨u, g, ?_⟩
        rcases c with ⟨rfl, rfl⟩ | ⟨d', v', rfl, rfl, r'⟩
        · simp only [q] at h3
          exact h3 ρ3 H3 Ext.refl ok3 _ rz
        · simp only [q] at h3
          exact h3 ρ3 H3 Ext.refl ok3 _ r'
    · exact h1.elim⟩
theorem i_get1 {o e : Expr} {mo mk : EM} {apos : Pos} (hu : X.A.units + 1 < cLine) (ho : IE X W o mo) (he : IE X W e mk) (m : M1 X o "get" apos e pos) : IE X W (.Call (.Attribute o "get" apos) [e] [] pos) (eGet1 mo mk) :=
  (pe_dget1 hu ho he m).wk fun σ H Q ⟨ρ, δ, lh, st, ok, h⟩ => ⟨ρ, δ, lh, st, ok, (Fin.bnd h).imp fun d lh1 ρ1 H1 e1 ok1 h1 v r1 => by
    split at h1
    · rename_i hd
      obtain ⟨a, rfl, isd⟩ := isDic_ok ok1 r1 hd
      refine ⟨a, rfl, isd, ρ1, δ, lh1, st.mono e1, ok1, (Fin.bnd h1).imp fun k lh2 ρ2 H2 e2 ok2 h2 y ry => ?_⟩
      cases q : getD' lh2 d k with
      | none => simp only [q] at h2; exact h2.elim
      | some t =>
        obtain ⟨u, g, c⟩ := getD_ok ok2 (Rep.mono e2 _ _ r1) ry q
        refine ⟨u, g, ?_⟩
        rcases c with ⟨rfl, rfl⟩ | ⟨d', v', rfl, rfl, r'⟩
        · simp only [q] at h2
          exact h2 ρ2 H2 Ext.refl ok2 _ rfl
        · simp only [q] at h2
          exact h2 ρ2 H2 Ext.refl ok2 _ r'
    · exact h1.elim⟩

/-! ### o[i] = v -/
def stD (o i d : D) (h : LH) : Option LH := match o with
  | .ref a => match h[a]? with
    | some (.lst ds) => match i with
      | .int k => (ixN ds.length k).map fun j => h.set a (.lst (ds.set j d))
      | _ => none
    | some (.dic kvs) => (dKey i).bind fun k => if kvs.length < sizeLine then some (h.set a (.dic (putD kvs k d))) else none
    | _ => none
  | _ => none
def rSt : TSet := fun o i v H Q => rSetL o i v H Q ∨ rSetD o i v H Q
theorem set_any (hu : X.A.units + 1 < cLine) : PSet X rSt := fun pins s σ H o i v ov iv u Q I ro ri rv h => by
  rcases h with h | h
  · exact set_list pins s σ H o i v ov iv u Q I ro ri rv h
  · exact set_dict hu pins s σ H o i v ov iv u Q I ro ri rv h
def gSt (mo mi : EM) : GM := fun d δ h => match mo δ h with
  | some (.ok o h1) => match mi δ h1 with
    | some (.ok i h2) => (stD o i d h2).map fun h3 => (δ, h3)
    | _ => none
  | _ => none
theorem st_ok {K : PySem.W.Frag} {ρ : List Addr} {H : Hp} {lh lh' : LH} {o i d : D} {x y v : V} (ok : LhOk K ρ H lh) (ro : Rep K ρ H o x) (ri : Rep K ρ H i y) (rd : Rep K ρ H d v) (e : stD o i d lh = some lh') :
    ∃ H', (∀ Q : Hp → Prop, Q H' → rSt x y v H Q) ∧ Ext K ρ ρ H H' ∧ LhOk K ρ H' lh' := by
  cases o with
  | ref a =>
    unfold stD at e
    simp only at e
    split at e
    · rename_i ds z
      split at e
      · rename_i k
        cases ri
        cases q : ixN ds.length k with
        | none => rw [q] at e; cases e
        | some j =>
          rw [q] at e
          cases e
          obtain ⟨p, rfl, hp, vs, hv, hr⟩ := ok.obj ro z
          have ex : Ext K ρ ρ H (upd H p (.lst (vs.set j v))) := Ext.mut (by rw [hv]; trivial)
          exact ⟨_, fun Q hQ => .inl ⟨p, vs, k, j, rfl, rfl, hv, by rw [← hr.length]; exact q, hQ⟩, ex, ok.put hp z trivial ⟨_, upd_same, (Reps.mono ex _ _ hr).set j (Rep.mono ex _ _ rd)⟩⟩
      · cases e
    · rename_i kvs z
      cases q : dKey i with
      | none => rw [q] at e; cases e
      | some k =>
        rw [q] at e
        simp only [Option.bind_some] at e
        split at e
        · rename_i hl
          cases e
          cases dKey_rep q ri
          obtain ⟨p, rfl, hp, ws, hv, hr⟩ := ok.obj ro z
          have ex : Ext K ρ ρ H (upd H p (.dK (putK ws k v))) := Ext.mut (by rw [hv]; trivial)
          exact ⟨_, fun Q hQ => .inr ⟨p, _, rfl, DPut.k hv (by rw [← hr.length]; exact hl), hQ⟩, ex, ok.put hp z trivial ⟨_, upd_same, RepK.put k (Rep.mono ex _ _ rd) (RepK.mono ex _ _ hr)⟩⟩
        · cases e
    · cases e
  | _ => cases e
theorem ig_st {o i : Expr} {mo mi : EM} (hu : X.A.units + 1 < cLine) (ho : IE X W o mo) (hi : IE X W i mi)
    (ha : ∀ v, assign (.Subscript o i pos) X.env v = (do
      let ov ← holding [v] (eval o X.env)
      let iv ← holding [v, ov] (eval i X.env)
      standAt pos
      holding [v, ov, iv] (setItem ov iv v)
      release [v, ov, iv] []) := by intro _; rfl) : IG X (.Subscript o i pos) (gSt mo mi) :=
  (pg_sub ho hi (set_any hu) ha).wk fun v σ H Q ⟨ρ, d, δ, lh, rd, st, ok, δ', lh', e, q⟩ => by
    unfold gSt at e
    split at e
    · rename_i od h1 e1
      split at e
      · rename_i id h2 e2
        cases e3 : stD od id d h2 with
        | none => rw [e3] at e; cases e
        | some h3 =>
          rw [e3] at e
          cases e
          refine ⟨ρ, δ, lh, st, ok, ?_⟩
          rw [e1]
          refine fun ρ1 H1 x1 ok1 v1 r1 => ⟨ρ1, δ, h1, st.mono x1, ok1, ?_⟩
          rw [e2]
          refine fun ρ2 H2 x2 ok2 v2 r2 => ?_
          obtain ⟨H3, hS, ex, ok3⟩ := st_ok ok2 (Rep.mono x2 _ _ r1) r2 (Rep.mono x2 _ _ (Rep.mono x1 _ _ rd)) e3
          have x := (x1.trans x2).trans ex
          exact hS _ (q σ ρ2 H3 x ok3 (st.mono x))
      · cases e
    · cases e

/-! ### built-in methods -/
def mD (K : PySem.W.Frag) (g : D → List D → LH → Option (D × LH)) : V → List V → Hp → VK → Prop := fun x xs H Q => ∃ ρ lh a ds d lh', LhOk K ρ H lh ∧ Rep K ρ H a x ∧ Reps K ρ H ds xs ∧ g a ds lh = some (d, lh') ∧
  ∀ v ρ' H', Ext K ρ ρ' H H' → LhOk K ρ' H' lh' → Rep K ρ' H' d v → Q v H'
def tyM (T : String) (d : D) (h : LH) : Bool := match d with
  | .str _ => T == "str"
  | .int _ => T == "int"
  | .ref i => match h[i]? with
    | some (.lst _) => T == "list"
    | some (.rls _) => T == "list"
    | some (.dic _) => T == "dict"
    | none => false
  | _ => false
theorem tyM_ok {K : PySem.W.Frag} {ρ : List Addr} {H : Hp} {lh : LH} {T : String} {d : D} {v : V} (ok : LhOk K ρ H lh) (r : Rep K ρ H d v) (e : tyM T d lh = true) : tyV K T v H := by
  cases d with
  | str x => cases r; exact eq_of_beq e
  | int x => cases r; exact eq_of_beq e
  | ref i =>
    unfold tyM at e
    simp only at e
    split at e
    · rename_i z
      obtain ⟨p, rfl, hp, vs, hv, hr⟩ := ok.obj r z
      exact .inl ⟨eq_of_beq e, vs, .inl (.inl hv)⟩
    · rename_i z
      obtain ⟨p, rfl, hp, vs, hv, hr⟩ := ok.obj r z
      exact .inl ⟨eq_of_beq e, vs, hv.sq⟩
    · rename_i z
      obtain ⟨p, rfl, hp, vs, hv, hr⟩ := ok.obj r z
      exact .inr (.inr (.inl ⟨eq_of_beq e, .inl ⟨vs, hv⟩⟩))
    · cases e
  | _ => cases e
def eMeth (T : String) (g : D → List D → LH → Option (D × LH)) (mo : EM) (a : AM) : EM := fun δ h => bnd (mo δ h) fun o h1 => if tyM T o h1 = true then bnd (a δ h1) fun ds h2 => opt (g o ds h2) else none
theorem i_meth {o e : Expr} {es : List Expr} {mo : EM} {a : AM} {name : Str} {apos : Pos} {T id : String} {g : D → List D → LH → Option (D × LH)} (hm : MtR X id (mD X.K g)) (pa : PlainAttrs T) (slot : Slot T name id) (hty : typeOf (.builtin id) = pure (.type "method_descriptor")) (ho : IE X W o mo) (ha : IA X W (e :: es) a)
    (hbase : attributeBase o name X.env (eval o X.env) = eval o X.env := by rfl)
    (hfew : ((backTo pos (starEach (e :: es) X.env)).all (fun x => !x.1) && (backToKw pos (keywordEach [] X.env)).all (fun x => x.1.isSome)
      && decide ((e :: es).length + ([] : List Keyword).length + (if ([] : List Keyword).isEmpty then 0 else 1) < 30)) = true := by rfl)
    (hline : (apos.endLine == pos.line) = true := by rfl) (hs : starEach (e :: es) X.env = (false, eval e X.env) :: starEach es X.env := by rfl) (hplain : (backTo pos (starEach es X.env)).any (·.1) = false := by rfl) :
    IE X W (.Call (.Attribute o name apos) (e :: es) [] pos) (eMeth T g mo a) :=
  (pe_bm pa slot hty hm ho ha hbase hfew hline hs hplain).wk fun σ H Q ⟨ρ, δ, lh, st, ok, h⟩ => ⟨ρ, δ, lh, st, ok, (Fin.bnd h).imp fun d lh1 ρ1 H1 e1 ok1 h1 v r1 => by
    split at h1
    · rename_i hd
      refine ⟨tyM_ok ok1 r1 hd, ρ1, δ, lh1, st.mono e1, ok1, (Fin.bnd h1).imp fun ds lh2 ρ2 H2 e2 ok2 h2 vs rs => ?_⟩
      cases q : g d ds lh2 with
      | none => rw [q] at h2; exact h2.elim
      | some z =>
        obtain ⟨d3, lh3⟩ := z
        rw [q] at h2
        exact ⟨ρ2, lh2, d, ds, d3, lh3, ok2, Rep.mono e2 _ _ r1, rs, q, fun v ρ' H' e o r => h2 ρ' H' e o v r⟩
    · exact h1.elim⟩
def eMeth0 (T : String) (g : D → List D → LH → Option (D × LH)) (mo : EM) : EM := fun δ h => bnd (mo δ h) fun o h1 => if tyM T o h1 = true then opt (g o [] h1) else none
theorem i_meth0 {o : Expr} {mo : EM} {name : Str} {apos : Pos} {T id : String} {g : D → List D → LH → Option (D × LH)} (hm : MtR X id (mD X.K g)) (pa : PlainAttrs T) (slot : Slot T name id) (hty : typeOf (.builtin id) = pure (.type "method_descriptor")) (ho : IE X W o mo)
    (hbase : attributeBase o name X.env (eval o X.env) = eval o X.env := by rfl) (hline : (apos.endLine == pos.line) = true := by rfl) : IE X W (.Call (.Attribute o name apos) [] [] pos) (eMeth0 T g mo) :=
  (pe_bm0 pa slot hty hm ho hbase hline).wk fun σ H Q ⟨ρ, δ, lh, st, ok, h⟩ => ⟨ρ, δ, lh, st, ok, (Fin.bnd h).imp fun d lh1 ρ1 H1 e1 ok1 h1 v r1 => by
    split at h1
    · rename_i hd
      refine ⟨tyM_ok ok1 r1 hd, ?_⟩
      cases q : g d [] lh1 with
      | none => rw [q] at h1; exact h1.elim
      | some z =>
        obtain ⟨d3, lh3⟩ := z
        rw [q] at h1
        exact ⟨ρ1, lh1, d, [], d3, lh3, ok1, r1, rfl, q, fun v ρ' H' e o r => h1 ρ' H' e o v r⟩
    · exact h1.elim⟩
def gAppend (o : D) (ds : List D) (h : LH) : Option (D × LH) := match o, ds with
  | .ref a, [d] => match h[a]? with
    | some (.lst xs) => if xs.length < sizeLine then some (.non, h.set a (.lst (xs ++ [d]))) else none
    | _ => none
  | _, _ => none
theorem m_append : MtR X "list.append" (mD X.K gAppend) := by
  intro pins s σ H x xs v us Q I rx rs ⟨ρ, lh, o, ds, d, lh', ok, ro, rds, e, q⟩
  unfold gAppend at e
  split at e
  · rename_i a d1
    split at e
    · rename_i ys z
      split at e
      · rename_i hl
        cases e
        obtain ⟨y, rfl, ry⟩ := reps1 rds
        obtain ⟨p, rfl, hp, vs, hv, hr⟩ := ok.obj ro z
        have ex : Ext X.K ρ ρ H (upd H p (.lst (vs ++ [y]))) := Ext.mut (by rw [hv]; trivial)
        exact mt_append pins s σ H _ _ v us Q I rx rs ⟨p, vs, y, rfl, rfl, hv, by rw [← hr.length]; exact hl, q _ _ _ ex (ok.put hp z trivial ⟨_, upd_same, (Reps.mono ex _ _ hr).append (Reps.one (Rep.mono ex _ _ ry))⟩) rfl⟩
      · cases e
    · cases e
  · cases e
end
end DL

/-! DL11: zip, range(a, b) -/
namespace DL
open PySem PySem.Spec PyProof.Rows L2
def zipD (xs ys : List D) : List D := List.zipWith (fun x y => .raw [x, y]) xs ys
/-- a list's items, with its guard -/
def lstG (h : LH) (d : D) : Option (List D × (Nat × LO)) := match d with
  | .ref i => match h[i]? with
    | some (.lst xs) => some (xs, (i, .lst xs))
    | some (.rls xs) => some (xs, (i, .rls xs))
    | _ => none
  | _ => none
def zipOf (h : LH) (ds : List D) : Option ItD := match ds with
  | [.tup xs, .tup ys] => some ⟨zipD xs ys, []⟩
  | [.ref i, .ref j] => match lstG h (.ref i), lstG h (.ref j) with
    | some (xs, p), some (ys, q) => some ⟨zipD xs ys, [p, q]⟩
    | _, _ => none
  | _ => none
def iZip (a : AM) : IM := fun δ h => bnd (a δ h) fun ds h1 => ri (zipOf h1 ds) h1
theorem zipD_get {xs ys : List D} {i : Nat} {d : D} (h : (zipD xs ys)[i]? = some d) : ∃ x y, xs[i]? = some x ∧ ys[i]? = some y ∧ d = .raw [x, y] := by
  unfold zipD at h
  rw [List.getElem?_zipWith] at h
  split at h
  · rename_i x y hx hy
    exact ⟨x, y, hx, hy, (Option.some.inj h).symm⟩
  · cases h
theorem itok_zipT {K : PySem.W.Frag} {ρ : List Addr} {H : Hp} {xs ys : List D} {a b : Addr} {vs ws : List V} (ha : SqT K H a vs) (hb : SqT K H b ws) (ra : Reps K ρ H xs vs) (rb : Reps K ρ H ys ws) : ItOk K ρ H ⟨zipD xs ys, []⟩ (RZ.ItzT K a b) := fun ρ' H' lh e ok _ => by
  have ha' := e.tupT _ _ ha
  have hb' := e.tupT _ _ hb
  have ra' := Reps.mono e _ _ ra
  have rb' := Reps.mono e _ _ rb
  refine ⟨fun i d hd => ?_, vs, ws, ha', hb', ?_⟩
  · obtain ⟨x, y, hx, hy, rfl⟩ := zipD_get hd
    obtain ⟨v, hv, rv⟩ := ra'.get hx
    obtain ⟨w, hw, rw'⟩ := rb'.get hy
    refine ⟨⟨vs, ws, v, w, ha', hb', hv, hw⟩, fun z H2 yl => ?_⟩
    obtain ⟨T, x', y', rfl, hT, rfl, q1, q2⟩ := yl
    have e1 := q1 vs ha'
    have e2 := q2 ws hb'
    rw [hv] at e1; rw [hw] at e2
    cases e1; cases e2
    have ex : Ext K ρ' ρ' H' (upd H' T (.tup [v, w])) := Ext.new hT
    exact ⟨ex, ok.grow hT, T, [v, w], rfl, .inl (.inl upd_same), v, [w], rfl, Rep.mono ex _ _ rv, w, [], rfl, Rep.mono ex _ _ rw', rfl⟩
  · have l1 := ra.length
    have l2 := rb.length
    simp only [zipD, List.length_zipWith]
    omega
theorem lstG_ok {K : PySem.W.Frag} {ρ : List Addr} {H : Hp} {lh : LH} {d : D} {v : V} {xs : List D} {p : Nat × LO} (ok : LhOk K ρ H lh) (r : Rep K ρ H d v) (e : lstG lh d = some (xs, p)) :
    ∃ a, v = .ref a ∧ lh[p.1]? = some p.2 ∧ ρ[p.1]? = some a ∧ ∀ ρ' H' lh', Ext K ρ ρ' H H' → LhOk K ρ' H' lh' → lh'[p.1]? = some p.2 → ∃ vs, SqL K H' a vs ∧ Reps K ρ' H' xs vs := by
  cases d with
  | ref i =>
    unfold lstG at e
    simp only at e
    split at e
    · rename_i ds z
      cases e
      obtain ⟨a, rfl, ha, _⟩ := ok.obj r z
      refine ⟨a, rfl, z, ha, fun ρ' H' lh' ex ok' h => ?_⟩
      obtain ⟨vs, hv, hr⟩ := ok'.at_ i a _ (ex.get ha) h
      exact ⟨vs, .inl (.inl hv), hr⟩
    · rename_i ds z
      cases e
      obtain ⟨a, rfl, ha, _⟩ := ok.obj r z
      refine ⟨a, rfl, z, ha, fun ρ' H' lh' ex ok' h => ?_⟩
      obtain ⟨vs, hv, hr⟩ := ok'.at_ i a _ (ex.get ha) h
      exact ⟨vs, hv.sq, hr⟩
    · cases e
  | _ => cases e
theorem itok_zipL {K : PySem.W.Frag} {ρ : List Addr} {H : Hp} {xs ys : List D} {p q : Nat × LO} {a b : Addr} (pa : ∀ ρ' H' lh', Ext K ρ ρ' H H' → LhOk K ρ' H' lh' → lh'[p.1]? = some p.2 → ∃ vs, SqL K H' a vs ∧ Reps K ρ' H' xs vs)
    (pb : ∀ ρ' H' lh', Ext K ρ ρ' H H' → LhOk K ρ' H' lh' → lh'[q.1]? = some q.2 → ∃ vs, SqL K H' b vs ∧ Reps K ρ' H' ys vs) : ItOk K ρ H ⟨zipD xs ys, [p, q]⟩ (Itz K a b) := fun ρ' H' lh e ok hit => by
  obtain ⟨vs, ha', ra'⟩ := pa ρ' H' lh e ok (hit p.1 p.2 (by simp))
  obtain ⟨ws, hb', rb'⟩ := pb ρ' H' lh e ok (hit q.1 q.2 (by simp))
  refine ⟨fun i d hd => ?_, vs, ws, ha', hb', ?_⟩
  · obtain ⟨x, y, hx, hy, rfl⟩ := zipD_get hd
    obtain ⟨v, hv, rv⟩ := ra'.get hx
    obtain ⟨w, hw, rw'⟩ := rb'.get hy
    refine ⟨⟨vs, ws, v, w, ha', hb', hv, hw⟩, fun z H2 yl => ?_⟩
    obtain ⟨T, x', y', rfl, hT, rfl, q1, q2⟩ := yl
    have e1 := q1 vs ha'
    have e2 := q2 ws hb'
    rw [hv] at e1; rw [hw] at e2
    cases e1; cases e2
    have ex : Ext K ρ' ρ' H' (upd H' T (.tup [v, w])) := Ext.new hT
    exact ⟨ex, ok.grow hT, T, [v, w], rfl, .inl (.inl upd_same), v, [w], rfl, Rep.mono ex _ _ rv, w, [], rfl, Rep.mono ex _ _ rw', rfl⟩
  · have l1 := ra'.length
    have l2 := rb'.length
    simp only [zipD, List.length_zipWith]
    omega
section
variable {X : Cx} {W : WX} {pos : Pos}
theorem ii_zip {e e2 : Expr} {ma : AM} {p tpos : Pos} {elts : List Expr} {kk : Nat} (ha : IA X W [e, e2] ma) (hm : X.mg "zip" = none) (hg : Gl X "zip" := by rfl) (hs : starEach [e, e2] X.env = (false, eval e X.env) :: starEach [e2] X.env := by rfl) (hpl : (backTo pos (starEach [e2] X.env)).any (·.1) = false := by rfl) :
    II X W (.Tuple elts kk tpos) (.Call (.Name "zip" p) [e, e2] [] pos) (iZip ma) :=
  (RZ.pi_zipA hg hm ha hs hpl).wk fun σ H R ⟨ρ, δ, lh, st, ok, h⟩ => ⟨ρ, δ, lh, st, ok, (Fin.bnd h).imp fun ds lh1 ρ1 H1 e1 ok1 h1 vs r1 => by
    cases q : zipOf lh1 ds with
    | none => rw [q] at h1; exact h1.elim
    | some it =>
      rw [q] at h1
      have h2 := h1 ρ1 H1 Ext.refl ok1
      unfold zipOf at q
      split at q
      · rename_i xs ys
        cases q
        obtain ⟨v, w, rfl, rv, rw'⟩ := reps2 r1
        obtain ⟨a, vs, rfl, ha, ra⟩ := rv
        obtain ⟨b, ws, rfl, hb, rb⟩ := rw'
        exact ⟨a, b, vs, ws, rfl, .inr ⟨ha.sq, hb.sq, h2 _ (fun i o z => by simp at z) (itok_zipT ha.sq hb.sq ra rb)⟩⟩
      · rename_i i j
        split at q
        · rename_i xs p ys p2 q1 q2
          cases q
          obtain ⟨v, w, rfl, rv, rw'⟩ := reps2 r1
          obtain ⟨a, rfl, ha, hpa, pa⟩ := lstG_ok ok1 rv q1
          obtain ⟨b, rfl, hb, hpb, pb⟩ := lstG_ok ok1 rw' q2
          obtain ⟨us, hu, _⟩ := pa ρ1 H1 lh1 Ext.refl ok1 ha
          obtain ⟨ws, hw, _⟩ := pb ρ1 H1 lh1 Ext.refl ok1 hb
          refine ⟨a, b, us, ws, rfl, .inl ⟨hu, hw, h2 _ (fun i o z => ?_) (itok_zipL pa pb)⟩⟩
          simp only [List.mem_cons, List.not_mem_nil, or_false] at z
          rcases z with z | z
          · rw [show i = p.1 from congrArg Prod.fst z, show o = p.2 from congrArg Prod.snd z]; exact ha
          · rw [show i = p2.1 from congrArg Prod.fst z, show o = p2.2 from congrArg Prod.snd z]; exact hb
        · cases q
      · cases q⟩
theorem ii_rng2 {tg a b : Expr} {p pos : Pos} {m : AM} (ha : IA X W [a, b] m) (hm : X.mg "range" = none) (hg : Gl X "range" := by rfl) (hs : starEach [a, b] X.env = [(false, eval a X.env), (false, eval b X.env)] := by rfl) (hs2 : starEach [b] X.env = [(false, eval b X.env)] := by rfl) : II X W tg (.Call (.Name "range" p) [a, b] [] pos) (iRng (fun δ h => bnd (m δ h) fun ds h1 => if ds.length = 2 then some (.ok ds h1) else none)) :=
  (pi_range2 hg hm ha hs hs2).wk fun σ H R ⟨ρ, δ, lh, st, ok, h⟩ => by
    refine ⟨ρ, δ, lh, st, ok, (Fin.bnd (Fin.bnd h)).imp fun ds lh1 ρ1 H1 e1 ok1 h1 vs r1 => ?_⟩
    by_cases hl : ds.length = 2
    · rw [if_pos hl] at h1
      have h1' := h1 ρ1 H1 Ext.refl ok1
      match ds, hl, r1, h1' with
      | [x, y], _, r1, h1' =>
        cases x with
        | int i =>
          cases y with
          | int j =>
            obtain ⟨v, w, rfl, rv, rw'⟩ := reps2 r1
            cases rv
            cases rw'
            by_cases hn : inR i ∧ inR j
            · simp only [if_pos hn] at h1'
              exact ⟨i, j, rfl, ⟨hn.1.1, hn.1.2, hn.2.1, hn.2.2⟩, h1' ρ1 H1 Ext.refl ok1 _ (fun _ _ z => nomatch z) itok_rng⟩
            · simp only [if_neg hn] at h1'
              exact h1'.elim
          | _ => exact h1'.elim
        | _ => exact h1'.elim
    · rw [if_neg hl] at h1
      exact h1.elim
end
end DL

/-! DL12: the law's own end; constants of the module -/
namespace DL
open PySem PySem.Spec PyProof.Rows L2
section
variable {P : Program} {w : World} {K : PySem.W.Frag} {mg : Str → Option Value} {base : Heap}
theorem fn_mk {x qual : Str} {st : Stmt} {f : Addr} {fd : FuncData} {N ps : List Str} {k : Nat} {m : SM} (F : Fun K x qual st f fd) (S : FnScope N ps (defScope st))
    (body : ∀ (cdv : Value) (A : Around) (outer : List Env) (s : Shared) (H : Hp) (E : XK), Cd (cxOf (L2.CX P w) P w K mg base N qual (defScope st) f cdv A outer s H E) (fun cls d _ H => E cls d H) →
      Room k (A.deeper (envOfC qual (defScope st) s.heap.objs.size f cdv)) → ISs (cxOf (L2.CX P w) P w K mg base N qual (defScope st) f cdv A outer s H E) (fun cls d _ H => E cls d H) (defBody st) m) : FnOk P w K mg base (L2.CX P w) (k + 1) f fd ps (spD K mg ps.length (fnD N.length m)) := by
  refine F.okX S (fun vs H Q E ⟨ρ, ds, lh, hl, r, _⟩ => r.length.symm.trans hl) (fun cdv A outer s H vs Q E hr h => ?_)
  refine ⟨_, body cdv A outer s H E (cd_of S.nd) hr, ?_⟩
  obtain ⟨ρ, ds, lh, hl, r, ok, h⟩ := h
  have h2 := Fin.gc ok h
  refine ⟨ρ, initD N.length ds, lh, StR.init r, ok, ?_⟩
  generalize m (initD N.length ds) lh = rr at h2 ⊢
  match rr, h2 with
  | some (.nx δ h'), h2 => exact fun σ' ρ' H' e ok' st' => h2 ρ' H' e ok' V.non rfl
  | some (.rt d h'), h2 => exact fun v ρ' H' e ok' r' => h2 ρ' H' e ok' v r'
  | some (.ex x' δ h'), h2 => exact fun σ' ρ' H' cls dx e ok' st' q' => h2 ρ' H' cls dx e ok' q'
/-- what the law's def promises: the script is a list that nothing changes -/
def spLaw (K : PySem.W.Frag) (F : FM) : Sp := fun vs H Q _ => ∃ a, ∃ ns : List Int, vs = [.ref a] ∧ FzL K H a (ns.map V.int) ∧ (∃ lh, F [.ref 0] [.rls (ns.map D.int)] = some (.ok (.bl true) lh)) ∧ ∀ H', Q (.bl true) H'
theorem law_sp {F : FM} {k : Nat} {f : Addr} {fd : FuncData} {x : Str} {CX : CXT} (h : FnOk P w K mg base CX k f fd [x] (spD K mg 1 F)) : FnOk P w K mg base CX k f fd [x] (spLaw K F) :=
  h.imp fun vs H Q E ⟨a, ns, e, hf, ⟨lh, hF⟩, q⟩ => by
    subst e
    refine ⟨[a], [.ref 0], [.rls (ns.map D.int)], rfl, ⟨.ref a, [], rfl, ⟨a, rfl, rfl⟩, rfl⟩, ⟨rfl, fun i j b o u hi hj h1 h2 m1 m2 => ?_, fun i b o hi h1 => ?_⟩, ?_⟩
    · cases i with
      | zero =>
        cases j with
        | zero => rfl
        | succ j => simp at hj
      | succ i => simp at hi
    · cases i with
      | zero =>
        simp at hi h1
        subst hi h1
        exact ⟨_, hf, reps_ints.mpr rfl⟩
      | succ i => simp at hi
    · rw [hF]
      intro ρ' H' e ok v r
      cases r
      exact q _
end
/-- THE END of a law row -/
theorem law_walk {l : PySem.W.OpenLaw} {n k : Nat} {q : Program} {loose : List Str} {XP : (Str → Option Value) → Heap → Prop} {YP : World → Heap → Prop} {d : DefRec} {K : Params → PySem.W.Frag} {x : Str} (F : FM)
    (hn : l.most = some n) (hn2 : n ≤ sizeLine) (hdf : d.params.defaults = []) (hr : Room k callerA)
    (hY : ∀ (w : World) (h : Heap), YP w h → (K w.params).In h)
    (hF : ∀ (w : World) (mg : Str → Option Value) (fa : Addr) (h : Heap), (K w.params).In h → h.Ns mainGlobals mg → mg d.name = some (.ref fa) →
      ∃ fd : FuncData, (∀ (s : Shared) (u : Value), BindsTo s fd ⟨[u], []⟩ [(x, u)]) ∧
        ∀ base : Heap, (K w.params).In base → base.Ns mainGlobals mg → FnOk l.prog w (K w.params) mg base (L2.CX l.prog w) k fa fd [x] (spD (K w.params) mg 1 F))
    (law : ∀ ns : List Int, ns.length ≤ n → (∀ z ∈ ns, Builtin.Int.intBits z ≤ 1048576) → ∃ lh, F [.ref 0] [.rls (ns.map D.int)] = some (.ok (.bl true) lh)) :
    PySem.W.WalkO q loose XP YP l.row.toRowW d [] (fun f vs => PySem.call f vs) := by
  refine L2.walk_ofB (K := K) (CX := fun w => L2.CX l.prog w) (sp := fun w => spLaw (K w.params) F) (x := x) hn hn2 hdf hr hY (fun w mg fa h KX G hmg => ?_) (fun w H a ns hl hb hO hS => ?_) (fun w H s e s' h => ?_)
  · obtain ⟨fd, hb, hF⟩ := hF w mg fa h KX G hmg
    exact ⟨fd, hb, fun base hk hg => law_sp (hF base hk hg)⟩
  · exact ⟨a, ns, rfl, FzL.of hS (hO a), law ns hl hb, fun _ => rfl⟩
  · obtain ⟨a, B, H', cls, d, _, _, _, _, _, _, _, z⟩ := h
    exact z
/-! ### constants of the module -/
/-- a written value is the datum d, whatever the heap -/
def KV1 (K : PySem.W.Frag) (d : D) (u : Value) : Prop := ∃ v, RelV v u ∧ ∀ ρ H, Rep K ρ H d v
def KVs (K : PySem.W.Frag) : List D → List Value → Prop
  | [], us => us = []
  | d :: ds, us => ∃ u r, us = u :: r ∧ KV1 K d u ∧ KVs K ds r
theorem KVs.reps {K : PySem.W.Frag} : ∀ {ds : List D} {us : List Value}, KVs K ds us → ∃ vs, Vals vs us ∧ ∀ ρ H, Reps K ρ H ds vs
  | [], _, h => by cases h; exact ⟨[], .nil, fun _ _ => rfl⟩
  | d :: ds, _, h => by
    obtain ⟨u, r, rfl, ⟨v, h1, h2⟩, h3⟩ := h
    obtain ⟨vs, h4, h5⟩ := h3.reps
    exact ⟨v :: vs, .cons h1 h4, fun ρ H => ⟨v, vs, rfl, h2 ρ H, h5 ρ H⟩⟩
theorem kv_non {K : PySem.W.Frag} : KV1 K .non .none := ⟨.non, rfl, fun _ _ => rfl⟩
theorem kv_bl {K : PySem.W.Frag} {b : Bool} : KV1 K (.bl b) (.bool b) := ⟨.bl b, rfl, fun _ _ => rfl⟩
theorem kv_int {K : PySem.W.Frag} {i : Int} {t : Tok} : KV1 K (.int i) (.int i t) := ⟨.int i, ⟨t, rfl⟩, fun _ _ => rfl⟩
theorem kv_str {K : PySem.W.Frag} {x : Str} {t : Tok} : KV1 K (.str x) (.str x t) := ⟨.str x, ⟨t, rfl⟩, fun _ _ => rfl⟩
theorem kv_tup {K : PySem.W.Frag} {ds : List D} {a : Addr} {its : List Value} {n : Nat} {sl : Array (Option Value)} (l : K.lookup a = some ⟨.type "tuple", none, .seq its.toArray n, sl⟩) (h : KVs K ds its) (hz : its.length ≤ sizeLine := by exact Nat.le_of_ble_eq_true rfl) : KV1 K (.tup ds) (.ref a) := by
  obtain ⟨vs, h1, h2⟩ := h.reps
  exact ⟨.ref a, rfl, fun ρ H => ⟨a, vs, rfl, .inr ⟨_, its.toArray, n, l, rfl, rfl, rfl, by simpa using hz, by simpa using h1⟩, h2 ρ H⟩⟩
theorem kvs_nil {K : PySem.W.Frag} : KVs K [] [] := rfl
theorem kvs_cons {K : PySem.W.Frag} {d : D} {ds : List D} {u : Value} {us : List Value} (h : KV1 K d u) (r : KVs K ds us) : KVs K (d :: ds) (u :: us) := ⟨u, us, rfl, h, r⟩
def GC (K : PySem.W.Frag) (mg : Str → Option Value) (x : Str) (d : D) : Prop := ∃ u, mg x = some u ∧ KV1 K d u
section
variable {X : Cx} {W : WX} {pos : Pos}
theorem i_gc {x : Str} {d : D} (g : GC X.K X.mg x d) (hg : Gl X x := by rfl) (hdb : (x == ("__debug__" : Str)) = false := by decide) : IE X W (.Name x pos) (eC d) := by
  obtain ⟨u, hm, v, r, h⟩ := g
  exact i_glob hg hm r h hdb
end
theorem hu65 {A : Around} {k : Nat} (hr : Room k A) : A.units + 65 < cLine := by have := hr.un; omega
theorem hu1 {A : Around} {k : Nat} (hr : Room k A) : A.units + 1 < cLine := by have := hr.un; omega
theorem hu64 {A : Around} {k : Nat} (hr : Room k A) : A.units + 64 < cLine := by have := hr.un; omega
end DL

/-! DL13: small things for what is printed -/
namespace DL
open PySem PySem.Spec PyProof.Rows L2
section
variable {P : Program} {w : World} {K : PySem.W.Frag} {mg : Str → Option Value} {base : Heap}
/-- no fuel: nothing is promised -/
theorem dfn_none {x qual : Str} {st : Stmt} {f : Addr} {fd : FuncData} {N ps : List Str} {k : Nat} (F : Fun K x qual st f fd) (hm : mg x = some (.ref f)) (S : FnScope N ps (defScope st)) (hb : Binds K fd ps []) : Dfn P w K mg base x k ps (fun _ _ => none) :=
  ⟨f, fd, hm, F.kp, ⟨fun vs H Q E ⟨ρ, ds, lh, hl, r, _⟩ => r.length.symm.trans hl, fun A outer s H args us vs Q E hr he hb hv ⟨ρ, ds, lh, hl, r, ok, h⟩ => h.elim⟩, hb⟩
theorem ExcT.mgx {x : Str} (T : ExcT K mg x) : ∃ C, mg x = some (.ref C) := let ⟨C, h, _⟩ := T.ex; ⟨C, h⟩
def ExcM1 (K : PySem.W.Frag) (mg : Str → Option Value) (x : Str) (ys : List Str) : Prop := ∀ y ∈ ys, ∀ C C', mg x = some (.ref C) → mg y = some (.ref C') → PySem.W.exmOne K (.ref C) (.ref C') = some (decide (x = y))
theorem excM1_nil {x : Str} : ExcM1 K mg x [] := fun y h => nomatch h
theorem excM1_cons {x y : Str} {ys : List Str} {C C' : Addr} (h1 : mg x = some (.ref C)) (h2 : mg y = some (.ref C')) (h : PySem.W.exmOne K (.ref C) (.ref C') = some (decide (x = y))) (r : ExcM1 K mg x ys) : ExcM1 K mg x (y :: ys) := fun z hz D D' e1 e2 => by
  rcases List.mem_cons.mp hz with rfl | hz
  · rw [h1] at e1; rw [h2] at e2; cases e1; cases e2; exact h
  · exact r z hz D D' e1 e2
theorem excM_nil {ys : List Str} : ExcM K mg [] ys := fun y h => nomatch h
theorem excM_cons {x : Str} {xs ys : List Str} (h : ExcM1 K mg x ys) (r : ExcM K mg xs ys) : ExcM K mg (x :: xs) ys := fun z hz => by
  rcases List.mem_cons.mp hz with rfl | hz
  · exact h
  · exact r z hz
end
end DL

/-! DL14: the combinators, unfolded by simp -/
namespace DL
open PySem PySem.Spec PyProof.Rows L2
@[simp] theorem eC_ap (d : D) (δ : DSt) (h : LH) : eC d δ h = some (.ok d h) := rfl
theorem eV_ap {i : Nat} {δ : DSt} {d : D} (h : LH) (e : δ[i]? = some (some d)) : eV i δ h = some (.ok d h) := by unfold eV; rw [e]
@[simp] theorem eV_0 (d : D) (δ : DSt) (h : LH) : eV 0 (some d :: δ) h = some (.ok d h) := rfl
@[simp] theorem eV_1 (a) (d : D) (δ : DSt) (h : LH) : eV 1 (a :: some d :: δ) h = some (.ok d h) := rfl
@[simp] theorem eV_2 (a b) (d : D) (δ : DSt) (h : LH) : eV 2 (a :: b :: some d :: δ) h = some (.ok d h) := rfl
@[simp] theorem eV_3 (a b c) (d : D) (δ : DSt) (h : LH) : eV 3 (a :: b :: c :: some d :: δ) h = some (.ok d h) := rfl
@[simp] theorem eV_4 (a b c x) (d : D) (δ : DSt) (h : LH) : eV 4 (a :: b :: c :: x :: some d :: δ) h = some (.ok d h) := rfl
@[simp] theorem eV_5 (a b c x y) (d : D) (δ : DSt) (h : LH) : eV 5 (a :: b :: c :: x :: y :: some d :: δ) h = some (.ok d h) := rfl
@[simp] theorem eV_6 (a b c x y z) (d : D) (δ : DSt) (h : LH) : eV 6 (a :: b :: c :: x :: y :: z :: some d :: δ) h = some (.ok d h) := rfl
@[simp] theorem eV_7 (a b c x y z u) (d : D) (δ : DSt) (h : LH) : eV 7 (a :: b :: c :: x :: y :: z :: u :: some d :: δ) h = some (.ok d h) := rfl
@[simp] theorem eV_8 (a b c x y z u v) (d : D) (δ : DSt) (h : LH) : eV 8 (a :: b :: c :: x :: y :: z :: u :: v :: some d :: δ) h = some (.ok d h) := rfl
@[simp] theorem eV_9 (a b c x y z u v w) (d : D) (δ : DSt) (h : LH) : eV 9 (a :: b :: c :: x :: y :: z :: u :: v :: w :: some d :: δ) h = some (.ok d h) := rfl
@[simp] theorem eV_10 (a b c x y z u v w p) (d : D) (δ : DSt) (h : LH) : eV 10 (a :: b :: c :: x :: y :: z :: u :: v :: w :: p :: some d :: δ) h = some (.ok d h) := rfl
@[simp] theorem eV_11 (a b c x y z u v w p q) (d : D) (δ : DSt) (h : LH) : eV 11 (a :: b :: c :: x :: y :: z :: u :: v :: w :: p :: q :: some d :: δ) h = some (.ok d h) := rfl
@[simp] theorem eV_12 (a b c x y z u v w p q r) (d : D) (δ : DSt) (h : LH) : eV 12 (a :: b :: c :: x :: y :: z :: u :: v :: w :: p :: q :: r :: some d :: δ) h = some (.ok d h) := rfl
@[simp] theorem eV_13 (v0 v1 v2 v3 v4 v5 v6 v7 v8 v9 v10 v11 v12 : Option D) (d : D) (δ : DSt) (h : LH) : eV 13 (v0 :: v1 :: v2 :: v3 :: v4 :: v5 :: v6 :: v7 :: v8 :: v9 :: v10 :: v11 :: v12 :: some d :: δ) h = some (.ok d h) := rfl
@[simp] theorem eV_14 (v0 v1 v2 v3 v4 v5 v6 v7 v8 v9 v10 v11 v12 v13 : Option D) (d : D) (δ : DSt) (h : LH) : eV 14 (v0 :: v1 :: v2 :: v3 :: v4 :: v5 :: v6 :: v7 :: v8 :: v9 :: v10 :: v11 :: v12 :: v13 :: some d :: δ) h = some (.ok d h) := rfl
@[simp] theorem eV_15 (v0 v1 v2 v3 v4 v5 v6 v7 v8 v9 v10 v11 v12 v13 v14 : Option D) (d : D) (δ : DSt) (h : LH) : eV 15 (v0 :: v1 :: v2 :: v3 :: v4 :: v5 :: v6 :: v7 :: v8 :: v9 :: v10 :: v11 :: v12 :: v13 :: v14 :: some d :: δ) h = some (.ok d h) := rfl
@[simp] theorem eV_16 (v0 v1 v2 v3 v4 v5 v6 v7 v8 v9 v10 v11 v12 v13 v14 v15 : Option D) (d : D) (δ : DSt) (h : LH) : eV 16 (v0 :: v1 :: v2 :: v3 :: v4 :: v5 :: v6 :: v7 :: v8 :: v9 :: v10 :: v11 :: v12 :: v13 :: v14 :: v15 :: some d :: δ) h = some (.ok d h) := rfl
@[simp] theorem eV_17 (v0 v1 v2 v3 v4 v5 v6 v7 v8 v9 v10 v11 v12 v13 v14 v15 v16 : Option D) (d : D) (δ : DSt) (h : LH) : eV 17 (v0 :: v1 :: v2 :: v3 :: v4 :: v5 :: v6 :: v7 :: v8 :: v9 :: v10 :: v11 :: v12 :: v13 :: v14 :: v15 :: v16 :: some d :: δ) h = some (.ok d h) := rfl
@[simp] theorem eV_18 (v0 v1 v2 v3 v4 v5 v6 v7 v8 v9 v10 v11 v12 v13 v14 v15 v16 v17 : Option D) (d : D) (δ : DSt) (h : LH) : eV 18 (v0 :: v1 :: v2 :: v3 :: v4 :: v5 :: v6 :: v7 :: v8 :: v9 :: v10 :: v11 :: v12 :: v13 :: v14 :: v15 :: v16 :: v17 :: some d :: δ) h = some (.ok d h) := rfl
@[simp] theorem eV_19 (v0 v1 v2 v3 v4 v5 v6 v7 v8 v9 v10 v11 v12 v13 v14 v15 v16 v17 v18 : Option D) (d : D) (δ : DSt) (h : LH) : eV 19 (v0 :: v1 :: v2 :: v3 :: v4 :: v5 :: v6 :: v7 :: v8 :: v9 :: v10 :: v11 :: v12 :: v13 :: v14 :: v15 :: v16 :: v17 :: v18 :: some d :: δ) h = some (.ok d h) := rfl
@[simp] theorem eV_20 (v0 v1 v2 v3 v4 v5 v6 v7 v8 v9 v10 v11 v12 v13 v14 v15 v16 v17 v18 v19 : Option D) (d : D) (δ : DSt) (h : LH) : eV 20 (v0 :: v1 :: v2 :: v3 :: v4 :: v5 :: v6 :: v7 :: v8 :: v9 :: v10 :: v11 :: v12 :: v13 :: v14 :: v15 :: v16 :: v17 :: v18 :: v19 :: some d :: δ) h = some (.ok d h) := rfl
@[simp] theorem eV_21 (v0 v1 v2 v3 v4 v5 v6 v7 v8 v9 v10 v11 v12 v13 v14 v15 v16 v17 v18 v19 v20 : Option D) (d : D) (δ : DSt) (h : LH) : eV 21 (v0 :: v1 :: v2 :: v3 :: v4 :: v5 :: v6 :: v7 :: v8 :: v9 :: v10 :: v11 :: v12 :: v13 :: v14 :: v15 :: v16 :: v17 :: v18 :: v19 :: v20 :: some d :: δ) h = some (.ok d h) := rfl
@[simp] theorem eV_22 (v0 v1 v2 v3 v4 v5 v6 v7 v8 v9 v10 v11 v12 v13 v14 v15 v16 v17 v18 v19 v20 v21 : Option D) (d : D) (δ : DSt) (h : LH) : eV 22 (v0 :: v1 :: v2 :: v3 :: v4 :: v5 :: v6 :: v7 :: v8 :: v9 :: v10 :: v11 :: v12 :: v13 :: v14 :: v15 :: v16 :: v17 :: v18 :: v19 :: v20 :: v21 :: some d :: δ) h = some (.ok d h) := rfl
@[simp] theorem eV_23 (v0 v1 v2 v3 v4 v5 v6 v7 v8 v9 v10 v11 v12 v13 v14 v15 v16 v17 v18 v19 v20 v21 v22 : Option D) (d : D) (δ : DSt) (h : LH) : eV 23 (v0 :: v1 :: v2 :: v3 :: v4 :: v5 :: v6 :: v7 :: v8 :: v9 :: v10 :: v11 :: v12 :: v13 :: v14 :: v15 :: v16 :: v17 :: v18 :: v19 :: v20 :: v21 :: v22 :: some d :: δ) h = some (.ok d h) := rfl
@[simp] theorem eV_24 (v0 v1 v2 v3 v4 v5 v6 v7 v8 v9 v10 v11 v12 v13 v14 v15 v16 v17 v18 v19 v20 v21 v22 v23 : Option D) (d : D) (δ : DSt) (h : LH) : eV 24 (v0 :: v1 :: v2 :: v3 :: v4 :: v5 :: v6 :: v7 :: v8 :: v9 :: v10 :: v11 :: v12 :: v13 :: v14 :: v15 :: v16 :: v17 :: v18 :: v19 :: v20 :: v21 :: v22 :: v23 :: some d :: δ) h = some (.ok d h) := rfl
@[simp] theorem eV_25 (v0 v1 v2 v3 v4 v5 v6 v7 v8 v9 v10 v11 v12 v13 v14 v15 v16 v17 v18 v19 v20 v21 v22 v23 v24 : Option D) (d : D) (δ : DSt) (h : LH) : eV 25 (v0 :: v1 :: v2 :: v3 :: v4 :: v5 :: v6 :: v7 :: v8 :: v9 :: v10 :: v11 :: v12 :: v13 :: v14 :: v15 :: v16 :: v17 :: v18 :: v19 :: v20 :: v21 :: v22 :: v23 :: v24 :: some d :: δ) h = some (.ok d h) := rfl
@[simp] theorem eV_26 (v0 v1 v2 v3 v4 v5 v6 v7 v8 v9 v10 v11 v12 v13 v14 v15 v16 v17 v18 v19 v20 v21 v22 v23 v24 v25 : Option D) (d : D) (δ : DSt) (h : LH) : eV 26 (v0 :: v1 :: v2 :: v3 :: v4 :: v5 :: v6 :: v7 :: v8 :: v9 :: v10 :: v11 :: v12 :: v13 :: v14 :: v15 :: v16 :: v17 :: v18 :: v19 :: v20 :: v21 :: v22 :: v23 :: v24 :: v25 :: some d :: δ) h = some (.ok d h) := rfl
@[simp] theorem eV_27 (v0 v1 v2 v3 v4 v5 v6 v7 v8 v9 v10 v11 v12 v13 v14 v15 v16 v17 v18 v19 v20 v21 v22 v23 v24 v25 v26 : Option D) (d : D) (δ : DSt) (h : LH) : eV 27 (v0 :: v1 :: v2 :: v3 :: v4 :: v5 :: v6 :: v7 :: v8 :: v9 :: v10 :: v11 :: v12 :: v13 :: v14 :: v15 :: v16 :: v17 :: v18 :: v19 :: v20 :: v21 :: v22 :: v23 :: v24 :: v25 :: v26 :: some d :: δ) h = some (.ok d h) := rfl
@[simp] theorem eV_28 (v0 v1 v2 v3 v4 v5 v6 v7 v8 v9 v10 v11 v12 v13 v14 v15 v16 v17 v18 v19 v20 v21 v22 v23 v24 v25 v26 v27 : Option D) (d : D) (δ : DSt) (h : LH) : eV 28 (v0 :: v1 :: v2 :: v3 :: v4 :: v5 :: v6 :: v7 :: v8 :: v9 :: v10 :: v11 :: v12 :: v13 :: v14 :: v15 :: v16 :: v17 :: v18 :: v19 :: v20 :: v21 :: v22 :: v23 :: v24 :: v25 :: v26 :: v27 :: some d :: δ) h = some (.ok d h) := rfl
@[simp] theorem eV_29 (v0 v1 v2 v3 v4 v5 v6 v7 v8 v9 v10 v11 v12 v13 v14 v15 v16 v17 v18 v19 v20 v21 v22 v23 v24 v25 v26 v27 v28 : Option D) (d : D) (δ : DSt) (h : LH) : eV 29 (v0 :: v1 :: v2 :: v3 :: v4 :: v5 :: v6 :: v7 :: v8 :: v9 :: v10 :: v11 :: v12 :: v13 :: v14 :: v15 :: v16 :: v17 :: v18 :: v19 :: v20 :: v21 :: v22 :: v23 :: v24 :: v25 :: v26 :: v27 :: v28 :: some d :: δ) h = some (.ok d h) := rfl
@[simp] theorem eV_30 (v0 v1 v2 v3 v4 v5 v6 v7 v8 v9 v10 v11 v12 v13 v14 v15 v16 v17 v18 v19 v20 v21 v22 v23 v24 v25 v26 v27 v28 v29 : Option D) (d : D) (δ : DSt) (h : LH) : eV 30 (v0 :: v1 :: v2 :: v3 :: v4 :: v5 :: v6 :: v7 :: v8 :: v9 :: v10 :: v11 :: v12 :: v13 :: v14 :: v15 :: v16 :: v17 :: v18 :: v19 :: v20 :: v21 :: v22 :: v23 :: v24 :: v25 :: v26 :: v27 :: v28 :: v29 :: some d :: δ) h = some (.ok d h) := rfl
@[simp] theorem eV_31 (v0 v1 v2 v3 v4 v5 v6 v7 v8 v9 v10 v11 v12 v13 v14 v15 v16 v17 v18 v19 v20 v21 v22 v23 v24 v25 v26 v27 v28 v29 v30 : Option D) (d : D) (δ : DSt) (h : LH) : eV 31 (v0 :: v1 :: v2 :: v3 :: v4 :: v5 :: v6 :: v7 :: v8 :: v9 :: v10 :: v11 :: v12 :: v13 :: v14 :: v15 :: v16 :: v17 :: v18 :: v19 :: v20 :: v21 :: v22 :: v23 :: v24 :: v25 :: v26 :: v27 :: v28 :: v29 :: v30 :: some d :: δ) h = some (.ok d h) := rfl
@[simp] theorem aNil_ap (δ : DSt) (h : LH) : aNil δ h = some (.ok [] h) := rfl
@[simp] theorem aCons_ap (m : EM) (r : AM) (δ : DSt) (h : LH) : aCons m r δ h = bnd (m δ h) fun d h1 => bnd (r δ h1) fun ds h2 => some (.ok (d :: ds) h2) := rfl
@[simp] theorem eTup_ap (a : AM) (δ : DSt) (h : LH) : eTup a δ h = bnd (a δ h) fun ds h1 => if ds.length ≤ 16777216 then some (.ok (.tup ds) h1) else none := rfl
@[simp] theorem eLst_ap (a : AM) (δ : DSt) (h : LH) : eLst a δ h = bnd (a δ h) fun ds h1 => if ds.length ≤ 16777216 then some (.ok (.ref h1.length) (h1 ++ [.lst ds])) else none := rfl
@[simp] theorem eBin_ap (g : D → D → LH → Option (D × LH)) (a b : EM) (δ : DSt) (h : LH) : eBin g a b δ h = bnd (a δ h) fun x h1 => bnd (b δ h1) fun y h2 => opt (g x y h2) := rfl
@[simp] theorem eUn_ap (g : D → LH → Option (D × LH)) (a : EM) (δ : DSt) (h : LH) : eUn g a δ h = bnd (a δ h) fun x h1 => opt (g x h1) := rfl
@[simp] theorem eCall_ap (g : List D → LH → Option (D × LH)) (a : AM) (δ : DSt) (h : LH) : eCall g a δ h = bnd (a δ h) fun x h1 => opt (g x h1) := rfl
@[simp] theorem eF_ap (n : Nat) (F : FM) (a : AM) (δ : DSt) (h : LH) : eF n F a δ h = bnd (a δ h) fun ds h1 => if ds.length = n then F ds h1 else none := rfl
@[simp] theorem tV_ap (m : EM) (δ : DSt) (h : LH) : tV m δ h = bnd (m δ h) fun d h1 => rb (dTruth d h1) h1 := rfl
@[simp] theorem tB_ap (m : EM) (δ : DSt) (h : LH) : tB m δ h = bnd (m δ h) fun d h1 => rb (asB d) h1 := rfl
@[simp] theorem dTruth_bl (b : Bool) (h : LH) : dTruth (.bl b) h = some b := rfl
@[simp] theorem dTruth_int (i : Int) (h : LH) : dTruth (.int i) h = some (i != 0) := rfl
@[simp] theorem dTruth_non (h : LH) : dTruth .non h = some false := rfl
@[simp] theorem dTruth_tup (ds : List D) (h : LH) : dTruth (.tup ds) h = some (!ds.isEmpty) := rfl
@[simp] theorem tAnd_ap (a b : TM) (δ : DSt) (h : LH) : tAnd a b δ h = bnd (a δ h) fun c h1 => if c = true then b δ h1 else some (.ok false h1) := rfl
@[simp] theorem tOr_ap (a b : TM) (δ : DSt) (h : LH) : tOr a b δ h = bnd (a δ h) fun c h1 => if c = true then some (.ok true h1) else b δ h1 := rfl
@[simp] theorem tNot_ap (a : TM) (δ : DSt) (h : LH) : tNot a δ h = bnd (a δ h) fun c h1 => some (.ok (!c) h1) := rfl
@[simp] theorem eAnd_ap (a b : EM) (δ : DSt) (h : LH) : eAnd a b δ h = bnd (a δ h) fun d h1 => bnd (rb (dTruth d h1) h1) fun c h2 => if c = true then b δ h2 else some (.ok d h2) := rfl
@[simp] theorem eOr_ap (a b : EM) (δ : DSt) (h : LH) : eOr a b δ h = bnd (a δ h) fun d h1 => bnd (rb (dTruth d h1) h1) fun c h2 => if c = true then some (.ok d h2) else b δ h2 := rfl
@[simp] theorem eNot_ap (a : EM) (δ : DSt) (h : LH) : eNot a δ h = bnd (a δ h) fun d h1 => bnd (rb (dTruth d h1) h1) fun c h2 => some (.ok (.bl (!c)) h2) := rfl
@[simp] theorem eIf_ap (t : TM) (a b : EM) (δ : DSt) (h : LH) : eIf t a b δ h = bnd (t δ h) fun c h1 => if c = true then a δ h1 else b δ h1 := rfl
@[simp] theorem eChain_ap (g g' : D → D → LH → Option (D × LH)) (a b c : EM) (δ : DSt) (h : LH) : eChain g g' a b c δ h = bnd (a δ h) fun x h1 => bnd (b δ h1) fun y h2 => bnd (opt (g x y h2)) fun z h3 => bnd (rb (asB z) h3) fun k h4 =>
  if k = true then bnd (c δ h4) fun w h5 => opt (g' y w h5) else some (.ok (.bl false) h4) := rfl
@[simp] theorem sNx_ap (δ : DSt) (h : LH) : sNx δ h = some (.nx δ h) := rfl
@[simp] theorem sSeq_ap (a b : SM) (δ : DSt) (h : LH) : sSeq a b δ h = match a δ h with | some (.nx δ' h') => b δ' h' | r => r := rfl
@[simp] theorem sIf_ap (t : TM) (a b : SM) (δ : DSt) (h : LH) : sIf t a b δ h = bndS δ (t δ h) fun c h1 => if c = true then a δ h1 else b δ h1 := rfl
@[simp] theorem sAsg_ap (m : EM) (g : GM) (δ : DSt) (h : LH) : sAsg m g δ h = bndS δ (m δ h) fun d h1 => match g d δ h1 with | none => none | some (δ', h2) => some (.nx δ' h2) := rfl
@[simp] theorem sExpr_ap (m : EM) (δ : DSt) (h : LH) : sExpr m δ h = bndS δ (m δ h) fun _ h1 => some (.nx δ h1) := rfl
@[simp] theorem sRet_ap (m : EM) (δ : DSt) (h : LH) : sRet m δ h = bndS δ (m δ h) fun d h1 => some (.rt d h1) := rfl
@[simp] theorem sRetN_ap (δ : DSt) (h : LH) : sRetN δ h = some (.rt .non h) := rfl
@[simp] theorem sBrk_ap (δ : DSt) (h : LH) : sBrk δ h = some (.bk δ h) := rfl
@[simp] theorem sCont_ap (δ : DSt) (h : LH) : sCont δ h = some (.ct δ h) := rfl
@[simp] theorem sRaise_ap (x : Str) (δ : DSt) (h : LH) : sRaise x δ h = some (.ex ⟨x, none⟩ δ h) := rfl
@[simp] theorem gN_ap (i : Nat) (d : D) (δ : DSt) (h : LH) : gN i d δ h = some (δ.set i (some d), h) := rfl
@[simp] theorem gTup_raw (gs : List GM) (ds : List D) (δ : DSt) (h : LH) : gTup gs (.raw ds) δ h = gTupL gs ds δ h := rfl
@[simp] theorem gTup_tup (gs : List GM) (ds : List D) (δ : DSt) (h : LH) : gTup gs (.tup ds) δ h = gTupL gs ds δ h := rfl
@[simp] theorem gTupL_nil (δ : DSt) (h : LH) : gTupL [] [] δ h = some (δ, h) := rfl
@[simp] theorem gTupL_cons (g : GM) (gs : List GM) (d : D) (ds : List D) (δ : DSt) (h : LH) : gTupL (g :: gs) (d :: ds) δ h = (match g d δ h with | none => none | some (δ', h') => gTupL gs ds δ' h') := rfl
@[simp] theorem sPar_ap (i j : Nat) (a : AM) (δ : DSt) (h : LH) : sPar i j a δ h = bndS δ (a δ h) fun ds h1 => match ds with | [x, y] => some (.nx ((δ.set i (some x)).set j (some y)) h1) | _ => none := rfl
@[simp] theorem oNone_ap (δ : DSt) (h : LH) : oNone δ h = some (.ok none h) := rfl
@[simp] theorem oSome_ap (m : EM) (δ : DSt) (h : LH) : oSome m δ h = bnd (m δ h) fun d h1 => match d with | .int i => some (.ok (some i) h1) | _ => none := rfl
@[simp] theorem eSl_ap (m : EM) (lo hi : OM) (δ : DSt) (h : LH) : eSl m lo hi δ h = bnd (m δ h) fun d h1 => bnd (lo δ h1) fun l h2 => bnd (hi δ h2) fun u h3 => opt (gSl d l u h3) := rfl
@[simp] theorem iSeq_ap (m : EM) (δ : DSt) (h : LH) : iSeq m δ h = bnd (m δ h) fun d h1 => ri (seqOf d h1) h1 := rfl
@[simp] theorem iZip_ap (a : AM) (δ : DSt) (h : LH) : iZip a δ h = bnd (a δ h) fun ds h1 => ri (zipOf h1 ds) h1 := rfl
@[simp] theorem seqOf_tup (ds : List D) (h : LH) : seqOf (.tup ds) h = some ⟨ds, []⟩ := rfl
@[simp] theorem sFor_ap (m : IM) (g : GM) (b : SM) (δ : DSt) (h : LH) : sFor m g b δ h = bndS δ (m δ h) fun it h1 => forL it g b it.items δ h1 := rfl
@[simp] theorem eNewD_ap (δ : DSt) (h : LH) : eNewD δ h = some (.ok (.ref h.length) (h ++ [.dic []])) := rfl
@[simp] theorem tTrue_ap (δ : DSt) (h : LH) : tTrue δ h = some (.ok true h) := rfl
/-! operations -/
@[simp] theorem gAdd_int (i j : Int) (h : LH) : gAdd (.int i) (.int j) h = some (.int (i + j), h) := rfl
@[simp] theorem gSub_int (i j : Int) (h : LH) : gSub (.int i) (.int j) h = some (.int (i - j), h) := rfl
@[simp] theorem gNeg_int (i : Int) (h : LH) : gNeg (.int i) h = some (.int (-i), h) := rfl
theorem gMul_int {i j : Int} (h : LH) (k : mulOk i j) : gMul (.int i) (.int j) h = some (.int (i * j), h) := by unfold gMul; simp [k]
theorem gFdiv_int {i j : Int} (h : LH) (k : divOk i j) : gFdiv (.int i) (.int j) h = some (.int (i.fdiv j), h) := by unfold gFdiv; simp [k]
theorem gMod_int {i j : Int} (h : LH) (k : j ≠ 0) : gMod (.int i) (.int j) h = some (.int (i.fmod j), h) := by unfold gMod; simp [k]
@[simp] theorem gLt_int (i j : Int) (h : LH) : gLt (.int i) (.int j) h = some (.bl (decide (i < j)), h) := rfl
@[simp] theorem gLt_str (x y : Str) (h : LH) : gLt (.str x) (.str y) h = some (.bl (decide (x.cps.toList < y.cps.toList)), h) := rfl
@[simp] theorem gLe_int (i j : Int) (h : LH) : gLe (.int i) (.int j) h = some (.bl (decide (i ≤ j)), h) := rfl
@[simp] theorem gGt_int (i j : Int) (h : LH) : gGt (.int i) (.int j) h = some (.bl (decide (j < i)), h) := rfl
@[simp] theorem gGe_int (i j : Int) (h : LH) : gGe (.int i) (.int j) h = some (.bl (decide (j ≤ i)), h) := rfl
@[simp] theorem gInt_int (i : Int) (h : LH) : gInt [.int i] h = some (.int i, h) := rfl
@[simp] theorem gInt_bl (b : Bool) (h : LH) : gInt [.bl b] h = some (.int (if b then 1 else 0), h) := rfl
@[simp] theorem gAbs_int (i : Int) (h : LH) : gAbs [.int i] h = some (.int (i.natAbs : Int), h) := by
  show some (D.int (if i < 0 then -i else i), h) = _
  have : (if i < 0 then -i else i) = (i.natAbs : Int) := by split <;> omega
  rw [this]
@[simp] theorem gLen_tup (xs : List D) (h : LH) : gLen [.tup xs] h = some (.int xs.length, h) := rfl
@[simp] theorem gTuple_tup (xs : List D) (h : LH) : gTuple [.tup xs] h = some (.tup xs, h) := rfl
@[simp] theorem gIsi_ap (Ts : List String) (d : D) (h : LH) : gIsi Ts d h = (tyN d h).map fun t => (.bl (Ts.any (isiB t)), h) := rfl
@[simp] theorem tyN_non (h : LH) : tyN .non h = some "NoneType" := rfl
@[simp] theorem tyN_bl (b : Bool) (h : LH) : tyN (.bl b) h = some "bool" := rfl
@[simp] theorem tyN_int (b : Int) (h : LH) : tyN (.int b) h = some "int" := rfl
@[simp] theorem tyN_str (b : Str) (h : LH) : tyN (.str b) h = some "str" := rfl
@[simp] theorem tyN_tup (b : List D) (h : LH) : tyN (.tup b) h = some "tuple" := rfl
@[simp] theorem gIx_tup (ds : List D) (i : Int) (h : LH) : gIx (.tup ds) (.int i) h = (atI ds i).map fun d => (d, h) := rfl
theorem atI_lit {α : Type} (xs : List α) (n : Nat) : atI xs (n : Int) = xs[n]? := by
  by_cases hl : n < xs.length
  · exact (atI_nat (List.getElem?_eq_getElem hl)).trans (List.getElem?_eq_getElem hl).symm
  · rw [List.getElem?_eq_none (Nat.le_of_not_lt hl)]
    have e : ixN xs.length (n : Int) = none := by
      unfold ixN
      have h1 : ¬ (n : Int) < (xs.length : Int) := by omega
      have h2 : ¬ (n : Int) < 0 := by omega
      simp [h1, h2]
    unfold atI
    rw [e]
    rfl
@[simp] theorem atI_0 {α : Type} (xs : List α) : atI xs 0 = xs[0]? := atI_lit xs 0
@[simp] theorem atI_1 {α : Type} (xs : List α) : atI xs 1 = xs[1]? := atI_lit xs 1
@[simp] theorem atI_2 {α : Type} (xs : List α) : atI xs 2 = xs[2]? := atI_lit xs 2
@[simp] theorem atI_3 {α : Type} (xs : List α) : atI xs 3 = xs[3]? := atI_lit xs 3
@[simp] theorem atI_4 {α : Type} (xs : List α) : atI xs 4 = xs[4]? := atI_lit xs 4
@[simp] theorem atI_5 {α : Type} (xs : List α) : atI xs 5 = xs[5]? := atI_lit xs 5
/-! a def's call -/
@[simp] theorem initD_ap (n : Nat) (ds : List D) : initD n ds = ds.map some ++ List.replicate (n - ds.length) none := rfl
theorem fnD_ap (n : Nat) (m : SM) (ds : List D) (lh : LH) : fnD n m ds lh = gc lh (toR (m (initD n ds) lh)) := rfl
/-- data without references -/
def vl : D → Bool
  | .tup ds => vlL ds
  | .raw ds => vlL ds
  | .ref _ => false
  | _ => true
where
  vlL : List D → Bool
  | [] => true
  | d :: ds => vl d && vlL ds
mutual
theorem vl_cl {n : Nat} : ∀ {d : D}, vl d = true → d.cl n = true
  | .non, _ => rfl
  | .bl _, _ => rfl
  | .int _, _ => rfl
  | .str _, _ => rfl
  | .tup ds, h => by unfold D.cl; exact vlL_cl (by unfold vl at h; exact h)
  | .raw ds, h => by unfold D.cl; exact vlL_cl (by unfold vl at h; exact h)
  | .ref _, h => by unfold vl at h; cases h
theorem vlL_cl {n : Nat} : ∀ {ds : List D}, vl.vlL ds = true → D.clL n ds = true
  | [], _ => rfl
  | d :: ds, h => by
    unfold vl.vlL at h
    rw [Bool.and_eq_true] at h
    unfold D.clL
    rw [vl_cl h.1, vlL_cl h.2]
    rfl
end
/-- nothing old was changed, new objects are forgotten -/
theorem gc_new {lh g : LH} {d : D} (h : vl d = true) : gc lh (some (.ok d (lh ++ g))) = some (.ok d lh) := by
  unfold gc
  have o : oldOk lh (lh ++ g) := ⟨by simp, fun i o hi e => .inl (by rw [List.getElem?_append_left hi] at e; exact e)⟩
  simp only [vl_cl h, o, and_self, if_true]
  simp
theorem gc_same {lh lh' : LH} {d : D} (h : lh'.length = lh.length) : gc lh (some (.ok d lh')) = some (.ok d lh') := by
  unfold gc
  split
  · rename_i e; cases e
  · rename_i d2 l2 e
    cases e
    rw [← h]
    simp
  · rename_i e; cases e
theorem gc_exc {lh g : LH} {x : Str} : gc lh (some (.exc ⟨x, none⟩ (lh ++ g))) = some (.exc ⟨x, none⟩ lh) := by
  unfold gc
  have o : oldOk lh (lh ++ g) := ⟨by simp, fun i o hi e => .inl (by rw [List.getElem?_append_left hi] at e; exact e)⟩
  simp only [argCl, o, and_self, if_true]
  simp
@[simp] theorem gc_self {lh : LH} {d : D} : gc lh (some (.ok d lh)) = some (.ok d lh) := gc_same rfl
@[simp] theorem gc_exself {lh : LH} {x : Str} : gc lh (some (.exc ⟨x, none⟩ lh)) = some (.exc ⟨x, none⟩ lh) := by
  have := gc_exc (lh := lh) (g := []) (x := x)
  simpa using this
end DL

/-! DL15: plain facts for the laws: reading, writing, sizes of numbers, comprehensions -/
namespace DL
open PySem PySem.Spec PyProof.Rows L2
theorem seq_nx {a b : SM} {δ δ' : DSt} {h h' : LH} (e : a δ h = some (.nx δ' h')) : sSeq a b δ h = b δ' h' := by rw [sSeq_ap, e]
theorem seq_rt {a b : SM} {δ : DSt} {d : D} {h h' : LH} (e : a δ h = some (.rt d h')) : sSeq a b δ h = some (.rt d h') := by rw [sSeq_ap, e]
theorem seq_ex {a b : SM} {δ δ' : DSt} {x : XD} {h h' : LH} (e : a δ h = some (.ex x δ' h')) : sSeq a b δ h = some (.ex x δ' h') := by rw [sSeq_ap, e]
theorem gIx_lst {h : LH} {i : Nat} {ds : List D} (e : h[i]? = some (.lst ds)) (k : Int) : gIx (.ref i) (.int k) h = (atI ds k).map fun d => (d, h) := by
  simp [gIx, ixD, e]
theorem gIx_dic {h : LH} {i : Nat} {kvs : List (Key × D)} (e : h[i]? = some (.dic kvs)) {b : D} {k : Key} (ek : dKey b = some k) : gIx (.ref i) b h = (valD kvs k).map fun d => (d, h) := by
  simp [gIx, ixD, e, ek]
theorem gLen_lst {h : LH} {i : Nat} {ds : List D} (e : h[i]? = some (.lst ds)) : gLen [.ref i] h = some (.int ds.length, h) := by
  simp [gLen, e]
theorem gLen_rls {h : LH} {i : Nat} {ds : List D} (e : h[i]? = some (.rls ds)) : gLen [.ref i] h = some (.int ds.length, h) := by
  simp [gLen, e]
@[simp] theorem gSt_ap (mo mi : EM) (d : D) (δ : DSt) (h : LH) : gSt mo mi d δ h = match mo δ h with
  | some (.ok o h1) => match mi δ h1 with
    | some (.ok i h2) => (stD o i d h2).map fun h3 => (δ, h3)
    | _ => none
  | _ => none := rfl
theorem stD_lst {h : LH} {i j : Nat} {ds : List D} {d : D} {k : Int} (e : h[i]? = some (.lst ds)) (ek : ixN ds.length k = some j) : stD (.ref i) (.int k) d h = some (h.set i (.lst (ds.set j d))) := by
  simp [stD, e, ek]
theorem stD_dic {h : LH} {i : Nat} {kvs : List (Key × D)} {b d : D} {k : Key} (e : h[i]? = some (.dic kvs)) (ek : dKey b = some k) (hl : kvs.length < sizeLine) : stD (.ref i) b d h = some (h.set i (.dic (putD kvs k d))) := by
  simp [stD, e, ek, hl]
@[simp] theorem dKey_int (i : Int) : dKey (.int i) = some (.inl i) := rfl
@[simp] theorem dKey_str (x : Str) : dKey (.str x) = some (.inr x) := rfl
theorem ixN_nat {n k : Nat} (h : k < n) : ixN n (k : Int) = some k := by
  unfold ixN
  have : (k : Int) < n := by omega
  simp [this]
theorem ixN_0 {n : Nat} (h : 0 < n) : ixN n 0 = some 0 := ixN_nat (k := 0) h
theorem ixN_1 {n : Nat} (h : 1 < n) : ixN n 1 = some 1 := ixN_nat (k := 1) h
theorem ixN_2 {n : Nat} (h : 2 < n) : ixN n 2 = some 2 := ixN_nat (k := 2) h
theorem ixN_3 {n : Nat} (h : 3 < n) : ixN n 3 = some 3 := ixN_nat (k := 3) h
theorem ixN_4 {n : Nat} (h : 4 < n) : ixN n 4 = some 4 := ixN_nat (k := 4) h
theorem atI_of {α : Type} {xs : List α} {i : Int} {n : Nat} (h : i = n) : atI xs i = xs[n]? := by subst h; exact atI_lit xs n
/-! numbers -/
theorem mulOk_l {i j : Int} (h : i.natAbs < 2 ^ 64) : mulOk i j := .inr (.inl h)
theorem mulOk_r {i j : Int} (h : j.natAbs < 2 ^ 64) : mulOk i j := .inr (.inr h)
theorem mulOk_pow {i j : Int} {k l : Nat} (hi : i.natAbs < 2 ^ k) (hj : j.natAbs < 2 ^ l) (h : k + l < 1000000) : mulOk i j := by
  have aux : ∀ {n m : Nat}, n < 2 ^ m → n.log2 ≤ m := fun {n m} h => by
    by_cases h0 : n = 0
    · subst h0; simp
    · exact Nat.le_of_lt ((Nat.log2_lt h0).mpr h)
  have h1 := aux hi
  have h2 := aux hj
  exact .inl (by omega)
theorem divOk_pow {i j : Int} {k : Nat} (h0 : j ≠ 0) (h : j.natAbs < 2 ^ k) (hk : k < 9000) : divOk i j := by
  refine ⟨h0, PyProof.noPylong_of_log2 ?_⟩
  have : j.natAbs ≠ 0 := by omega
  exact Nat.lt_of_lt_of_le ((Nat.log2_lt this).mpr h) (by omega)
@[simp] theorem gEq_int (i j : Int) (h : LH) : gEq (.int i) (.int j) h = some (.bl (i == j), h) := rfl
@[simp] theorem gEq_str (i j : Str) (h : LH) : gEq (.str i) (.str j) h = some (.bl (i == j), h) := rfl
@[simp] theorem gEq_bl (i j : Bool) (h : LH) : gEq (.bl i) (.bl j) h = some (.bl (i == j), h) := rfl
@[simp] theorem gNe_int (i j : Int) (h : LH) : gNe (.int i) (.int j) h = some (.bl (!(i == j)), h) := rfl
@[simp] theorem gNe_str (i j : Str) (h : LH) : gNe (.str i) (.str j) h = some (.bl (!(i == j)), h) := rfl
@[simp] theorem gNe_bl (i j : Bool) (h : LH) : gNe (.bl i) (.bl j) h = some (.bl (!(i == j)), h) := rfl
theorem gPow_nat (i : Int) (n : Nat) (h : LH) (hi : i.natAbs < 2 ^ 64) (hn : n ≤ 1000000) : gPow (.int i) (.int (n : Int)) h = some (.int (i ^ n), h) := by
  unfold gPow
  have : (n : Int) ≤ 1000000 := by omega
  simp [hi, this]
/-! comprehensions, loops -/
theorem set_last (h : LH) (x y : LO) : (h ++ [x]).set h.length y = h ++ [y] := by
  rw [List.set_append_right _ _ (Nat.le_refl _)]; simp
theorem growL_last (h : LH) (acc : List D) (y : D) (hz : acc.length < sizeLine) : growL h.length y (h ++ [.lst acc]) = some (h ++ [.lst (acc ++ [y])]) := by
  unfold growL
  simp [hz, set_last]
/-- a comprehension whose items touch nothing else -/
theorem compL_pure {it : ItD} {g : GM} {t : TM} {e : EM} {δ : DSt} {h : LH} (p : D → Bool) (f : D → D) (hit : ∀ x, it.ok (h ++ [x])) : ∀ (ds acc : List D),
    (∀ d ∈ ds, ∀ x, ∃ δ1, g d δ (h ++ [x]) = some (δ1, h ++ [x]) ∧ t δ1 (h ++ [x]) = some (.ok (p d) (h ++ [x])) ∧ (p d = true → e δ1 (h ++ [x]) = some (.ok (f d) (h ++ [x])))) →
    acc.length + ds.length ≤ sizeLine → compL it h.length g t e δ ds (h ++ [.lst acc]) = some (h ++ [.lst (acc ++ (ds.filter p).map f)])
  | [], acc, _, _ => by simp [compL]
  | d :: ds, acc, H, hz => by
    obtain ⟨δ1, e1, e2, e3⟩ := H d List.mem_cons_self (.lst acc)
    rw [List.length_cons] at hz
    have ih := fun acc' (hz' : acc'.length + ds.length ≤ sizeLine) => compL_pure p f hit ds acc' (fun d hd => H d (List.mem_cons_of_mem _ hd)) hz'
    unfold compL
    rw [e1]
    simp only [e2]
    cases hp : p d with
    | true =>
      simp only [e3 hp, growL_last h acc (f d) (by omega), hit, if_true]
      rw [ih (acc ++ [f d]) (by simp; omega)]
      simp [hp]
    | false =>
      simp only [hit, if_true]
      rw [ih acc (by omega)]
      simp [hp]
theorem eComp_pure {m : IM} {own : List Nat} {g : GM} {t : TM} {e : EM} {δ : DSt} {h h1 : LH} {it : ItD} (p : D → Bool) (f : D → D) (hm : m δ h = some (.ok it h1)) (hit : ∀ x, it.ok (h1 ++ [x]))
    (H : ∀ d ∈ it.items, ∀ x, ∃ δ1, g d (wipeD δ own) (h1 ++ [x]) = some (δ1, h1 ++ [x]) ∧ t δ1 (h1 ++ [x]) = some (.ok (p d) (h1 ++ [x])) ∧ (p d = true → e δ1 (h1 ++ [x]) = some (.ok (f d) (h1 ++ [x]))))
    (hz : it.items.length ≤ sizeLine) : eComp m own g t e δ h = some (.ok (.ref h1.length) (h1 ++ [.lst ((it.items.filter p).map f)])) := by
  unfold eComp
  rw [hm]
  simp only [bnd_ok]
  rw [compL_pure p f hit it.items [] H (by simpa using hz)]
  simp
theorem ok_nil {ds : List D} {h : LH} : (⟨ds, []⟩ : ItD).ok h := fun i o z => by simp at z
theorem ok_one {ds : List D} {i : Nat} {o : LO} {h : LH} (e : h[i]? = some o) (x : LO) : (⟨ds, [(i, o)]⟩ : ItD).ok (h ++ [x]) := fun j o' z => by
  simp only [List.mem_singleton] at z
  cases z
  rw [List.getElem?_append_left (List.getElem?_eq_some_iff.mp e).1]
  exact e
/-- no condition: every item -/
theorem eComp_map {m : IM} {own : List Nat} {g : GM} {e : EM} {δ : DSt} {h h1 : LH} {it : ItD} (f : D → D) (hm : m δ h = some (.ok it h1)) (hit : ∀ x, it.ok (h1 ++ [x]))
    (H : ∀ d ∈ it.items, ∀ x, ∃ δ1, g d (wipeD δ own) (h1 ++ [x]) = some (δ1, h1 ++ [x]) ∧ e δ1 (h1 ++ [x]) = some (.ok (f d) (h1 ++ [x])))
    (hz : it.items.length ≤ sizeLine) : eComp m own g tTrue e δ h = some (.ok (.ref h1.length) (h1 ++ [.lst (it.items.map f)])) := by
  rw [eComp_pure (fun _ => true) f hm hit (fun d hd x => by obtain ⟨δ1, e1, e2⟩ := H d hd x; exact ⟨δ1, e1, rfl, fun _ => e2⟩) hz, List.filter_eq_self.mpr (fun _ _ => rfl)]
/-- a loop, by what holds between its turns -/
theorem forL_ind {it : ItD} {g : GM} {b : SM} (P : List D → DSt → LH → Prop)
    (step : ∀ d ds δ h, P (d :: ds) δ h → ∃ δ1 h1 δ2 h2, g d δ h = some (δ1, h1) ∧ (b δ1 h1 = some (.nx δ2 h2) ∨ b δ1 h1 = some (.ct δ2 h2)) ∧ it.ok h2 ∧ P ds δ2 h2) :
    ∀ ds δ h, P ds δ h → ∃ δ' h', forL it g b ds δ h = some (.nx δ' h') ∧ P [] δ' h'
  | [], δ, h, q => ⟨δ, h, rfl, q⟩
  | d :: ds, δ, h, q => by
    obtain ⟨δ1, h1, δ2, h2, e1, e2, ok, q2⟩ := step d ds δ h q
    obtain ⟨δ', h', e3, q3⟩ := forL_ind P step ds δ2 h2 q2
    refine ⟨δ', h', ?_, q3⟩
    unfold forL
    rw [e1]
    rcases e2 with e2 | e2 <;> simp only [e2, ok, if_true] <;> exact e3
theorem gAll_lst {h : LH} {i : Nat} {bs : List Bool} (e : h[i]? = some (.lst (bs.map .bl))) : gAll [.ref i] h = some (.bl (bs.all id), h) := by
  simp [gAll, lstAt, e]
theorem gAny_lst {h : LH} {i : Nat} {bs : List Bool} (e : h[i]? = some (.lst (bs.map .bl))) : gAny [.ref i] h = some (.bl (bs.any id), h) := by
  simp [gAny, lstAt, e]
theorem get_last (h : LH) (x : LO) : (h ++ [x])[h.length]? = some x := by simp
theorem gTuple_lst {h : LH} {i : Nat} {xs : List D} (e : h[i]? = some (.lst xs)) : gTuple [.ref i] h = some (.tup xs, h) := by
  simp [gTuple, lstAt, e]
/-- all([.. for ..]) -/
theorem all_comp {m : IM} {own : List Nat} {g : GM} {e : EM} {δ : DSt} {h h1 : LH} {it : ItD} (P : D → Bool) (hm : m δ h = some (.ok it h1)) (hit : ∀ x, it.ok (h1 ++ [x]))
    (H : ∀ d ∈ it.items, ∀ x, ∃ δ1, g d (wipeD δ own) (h1 ++ [x]) = some (δ1, h1 ++ [x]) ∧ e δ1 (h1 ++ [x]) = some (.ok (.bl (P d)) (h1 ++ [x])))
    (hz : it.items.length ≤ sizeLine) : eCall gAll (aCons (eComp m own g tTrue e) aNil) δ h = some (.ok (.bl (it.items.all P)) (h1 ++ [.lst (it.items.map fun d => .bl (P d))])) := by
  rw [eCall_ap, aCons_ap, eComp_map (fun d => .bl (P d)) hm hit H hz]
  have e2 : (h1 ++ [LO.lst (it.items.map fun d => D.bl (P d))])[h1.length]? = some (.lst ((it.items.map P).map .bl)) := by
    rw [get_last, List.map_map]; rfl
  simp [gAll_lst e2]
theorem any_comp {m : IM} {own : List Nat} {g : GM} {e : EM} {δ : DSt} {h h1 : LH} {it : ItD} (P : D → Bool) (hm : m δ h = some (.ok it h1)) (hit : ∀ x, it.ok (h1 ++ [x]))
    (H : ∀ d ∈ it.items, ∀ x, ∃ δ1, g d (wipeD δ own) (h1 ++ [x]) = some (δ1, h1 ++ [x]) ∧ e δ1 (h1 ++ [x]) = some (.ok (.bl (P d)) (h1 ++ [x])))
    (hz : it.items.length ≤ sizeLine) : eCall gAny (aCons (eComp m own g tTrue e) aNil) δ h = some (.ok (.bl (it.items.any P)) (h1 ++ [.lst (it.items.map fun d => .bl (P d))])) := by
  rw [eCall_ap, aCons_ap, eComp_map (fun d => .bl (P d)) hm hit H hz]
  have e2 : (h1 ++ [LO.lst (it.items.map fun d => D.bl (P d))])[h1.length]? = some (.lst ((it.items.map P).map .bl)) := by
    rw [get_last, List.map_map]; rfl
  simp [gAny_lst e2]
@[simp] theorem gc_bl {lh g : LH} {b : Bool} : gc lh (some (.ok (.bl b) (lh ++ g))) = some (.ok (.bl b) lh) := gc_new rfl
@[simp] theorem gc_int {lh g : LH} {b : Int} : gc lh (some (.ok (.int b) (lh ++ g))) = some (.ok (.int b) lh) := gc_new rfl
@[simp] theorem gc_str {lh g : LH} {b : Str} : gc lh (some (.ok (.str b) (lh ++ g))) = some (.ok (.str b) lh) := gc_new rfl
@[simp] theorem gc_non {lh g : LH} : gc lh (some (.ok .non (lh ++ g))) = some (.ok .non lh) := gc_new rfl
@[simp] theorem Tg_nm (i : Nat) : Tg.g (.nm i) = gN i := rfl
@[simp] theorem Tg_tup (ts : List Tg) : Tg.g (.tup ts) = gTup (Tg.gs ts) := rfl
@[simp] theorem Tg_gs_nil : Tg.gs [] = [] := rfl
@[simp] theorem Tg_gs_cons (t : Tg) (ts : List Tg) : Tg.gs (t :: ts) = Tg.g t :: Tg.gs ts := rfl
@[simp] theorem wipeD_nil (δ : DSt) : wipeD δ [] = δ := rfl
@[simp] theorem wipeD_cons (δ : DSt) (v : Nat) (vs : List Nat) : wipeD δ (v :: vs) = (wipeD δ vs).set v none := rfl
@[simp] theorem seqOf_str (x : Str) (h : LH) : seqOf (.str x) h = some ⟨x.cps.toList.map fun c => .str ⟨#[c]⟩, []⟩ := rfl
theorem seqOf_lst {h : LH} {i : Nat} {ds : List D} (e : h[i]? = some (.lst ds)) : seqOf (.ref i) h = some ⟨ds, [(i, .lst ds)]⟩ := by simp [seqOf, e]
theorem seqOf_rls {h : LH} {i : Nat} {ds : List D} (e : h[i]? = some (.rls ds)) : seqOf (.ref i) h = some ⟨ds, [(i, .rls ds)]⟩ := by simp [seqOf, e]
theorem tyN_lst {h : LH} {i : Nat} {ds : List D} (e : h[i]? = some (.lst ds)) : tyN (.ref i) h = some "list" := by simp [tyN, e]
theorem iRng_1 {a : AM} {δ : DSt} {h h1 : LH} {n : Int} (e : a δ h = some (.ok [.int n] h1)) (hn : inR n) : iRng a δ h = some (.ok ⟨rgD 0 n, []⟩ h1) := by
  unfold iRng
  rw [e]
  simp [hn]
theorem rgD_len (a b : Int) : (rgD a b).length = (b - a).toNat := by simp [rgD]
theorem mem_rgD {a b : Int} {d : D} (h : d ∈ rgD a b) : ∃ k : Nat, d = .int (a + k) ∧ k < (b - a).toNat := by
  unfold rgD at h
  obtain ⟨k, hk, rfl⟩ := List.mem_map.mp h
  exact ⟨k, rfl, by simpa using hk⟩
/-! dicts -/
theorem eGet2_ok {mo mk mx : EM} {δ : DSt} {h : LH} {i : Nat} {kvs : List (Key × D)} {kd x : D} {k : Key} (e1 : mo δ h = some (.ok (.ref i) h)) (e2 : h[i]? = some (.dic kvs)) (e3 : mk δ h = some (.ok kd h)) (e4 : dKey kd = some k) (e5 : mx δ h = some (.ok x h)) :
    eGet2 mo mk mx δ h = some (.ok ((valD kvs k).getD x) h) := by
  unfold eGet2
  rw [e1]
  simp only [bnd_ok, isDic, e2, if_true, e3, e5, getD', e4, Option.map_some]
  cases valD kvs k <;> rfl
theorem pairs_str : ∀ (l : List (Str × D)), pairsD (l.map fun p => .tup [.str p.1, p.2]) = some (l.map fun p => (.inr p.1, p.2))
  | [] => rfl
  | p :: l => by
    have := pairs_str l
    simp [pairsD, this]
theorem putD_new {kvs : List (Key × D)} {k : Key} {d : D} (h : ∀ p ∈ kvs, p.1 ≠ k) : putD kvs k d = kvs ++ [(k, d)] := by
  unfold putD
  rw [if_neg]
  simp only [List.any_eq_true, decide_eq_true_eq, not_exists, not_and]
  exact h
theorem mergeD_nodup : ∀ (more acc : List (Key × D)), ((acc ++ more).map (·.1)).Nodup → mergeD acc more = acc ++ more
  | [], acc, _ => by simp [mergeD]
  | p :: more, acc, h => by
    have e : mergeD acc (p :: more) = mergeD (putD acc p.1 p.2) more := rfl
    have h' := h
    rw [List.map_append, List.map_cons, List.nodup_append] at h'
    rw [e, putD_new (fun q hq => h'.2.2 q.1 (List.mem_map_of_mem hq) p.1 List.mem_cons_self)]
    rw [mergeD_nodup more (acc ++ [(p.1, p.2)]) (by simpa [List.append_assoc] using h)]
    simp
/-- the value under a name -/
def lk {α : Type} (l : List (Str × α)) (b : Str) : Option α := (l.find? fun p => decide (p.1 = b)).map (·.2)
theorem valD_map {α : Type} (f : α → D) (b : Str) : ∀ l : List (Str × α), valD (l.map fun p => ((.inr p.1 : Key), f p.2)) (.inr b) = (lk l b).map f
  | [] => rfl
  | p :: l => by
    have ih := valD_map f b l
    unfold valD lk at ih ⊢
    rw [List.map_cons, List.find?_cons, List.find?_cons]
    by_cases e : p.1 = b
    · simp [e]
    · simp [e]
      simpa using ih
theorem keys_nodup {α : Type} (f : α → D) {l : List (Str × α)} (h : (l.map (·.1)).Nodup) : ((l.map fun p => ((.inr p.1 : Key), f p.2)).map (·.1)).Nodup := by
  rw [List.map_map]
  have : ((fun x : Key × D => x.1) ∘ fun p : Str × α => ((.inr p.1 : Key), f p.2)) = Sum.inr ∘ (fun p : Str × α => p.1) := rfl
  rw [this, ← List.map_map]
  exact h.map _ (fun a b h e => h (Sum.inr.inj e))
/-- dict(..) of a tuple of named pairs -/
theorem gDict_np {α : Type} (f : α → D) {l : List (Str × α)} (hn : (l.map (·.1)).Nodup) (h : LH) : gDict [.tup ((l.map fun p => (p.1, f p.2)).map fun p => .tup [.str p.1, p.2])] h = some (.ref h.length, h ++ [.dic (l.map fun p => (.inr p.1, f p.2))]) := by
  unfold gDict
  simp only [pairs_str, Option.map_some]
  rw [List.map_map]
  have := mergeD_nodup (l.map fun p => ((.inr p.1 : Key), f p.2)) [] (by simpa using keys_nodup f hn)
  simp only [List.nil_append] at this
  rw [show (fun p : Str × D => ((.inr p.1 : Key), p.2)) ∘ (fun p : Str × α => (p.1, f p.2)) = fun p : Str × α => ((.inr p.1 : Key), f p.2) from rfl, this]
/-! steps of loops -/
theorem forL_nx {it : ItD} {g : GM} {b : SM} {d : D} {ds : List D} {δ δ1 δ2 : DSt} {h h1 h2 : LH} (e1 : g d δ h = some (δ1, h1)) (e2 : b δ1 h1 = some (.nx δ2 h2)) (ok : it.ok h2) : forL it g b (d :: ds) δ h = forL it g b ds δ2 h2 := by
  conv => lhs; unfold forL
  rw [e1]
  simp only [e2, ok, if_true]
theorem forL_rt {it : ItD} {g : GM} {b : SM} {d : D} {ds : List D} {δ δ1 : DSt} {h h1 h2 : LH} {v : D} (e1 : g d δ h = some (δ1, h1)) (e2 : b δ1 h1 = some (.rt v h2)) : forL it g b (d :: ds) δ h = some (.rt v h2) := by
  conv => lhs; unfold forL
  rw [e1]
  simp only [e2]
theorem forL_bk {it : ItD} {g : GM} {b : SM} {d : D} {ds : List D} {δ δ1 δ2 : DSt} {h h1 h2 : LH} (e1 : g d δ h = some (δ1, h1)) (e2 : b δ1 h1 = some (.bk δ2 h2)) : forL it g b (d :: ds) δ h = some (.nx δ2 h2) := by
  conv => lhs; unfold forL
  rw [e1]
  simp only [e2]
@[simp] theorem forL_nil {it : ItD} {g : GM} {b : SM} {δ : DSt} {h : LH} : forL it g b [] δ h = some (.nx δ h) := rfl
theorem wh_stop {t : TM} {b : SM} {δ : DSt} {h h1 : LH} (e : t δ h = some (.ok false h1)) : sWh t b δ h = some (.nx δ h1) := by
  rw [sWh_eq, e]; rfl
theorem wh_nx {t : TM} {b : SM} {δ δ2 : DSt} {h h1 h2 : LH} (e : t δ h = some (.ok true h1)) (e2 : b δ h1 = some (.nx δ2 h2)) : sWh t b δ h = sWh t b δ2 h2 := by
  rw [sWh_eq, e]
  simp [e2]
theorem wh_rt {t : TM} {b : SM} {δ : DSt} {h h1 h2 : LH} {d : D} (e : t δ h = some (.ok true h1)) (e2 : b δ h1 = some (.rt d h2)) : sWh t b δ h = some (.rt d h2) := by
  rw [sWh_eq, e]
  simp [e2]
theorem wh_bk {t : TM} {b : SM} {δ δ2 : DSt} {h h1 h2 : LH} (e : t δ h = some (.ok true h1)) (e2 : b δ h1 = some (.bk δ2 h2)) : sWh t b δ h = some (.nx δ2 h2) := by
  rw [sWh_eq, e]
  simp [e2]
/-! == and in over plain data -/
theorem str_beq (x y : Str) : (x == y) = decide (x = y) := by
  by_cases h : x = y
  · subst h; simp
  · simp [h]
theorem pys_str (rd : Nat → Option PyData) : ∀ l : List Str, D.pys rd (l.map .str) = some (l.map .str)
  | [] => rfl
  | x :: l => by
    have := pys_str rd l
    simp only [List.map_cons, D.pys, D.py, this]
theorem pyH_strs {h : LH} {k : Nat} {l : List Str} (e : h[k]? = some (.lst (l.map .str))) : (D.ref k).pyH h = some (.list (l.map .str)) := by
  show rdN h 4 k = _
  unfold rdN
  rw [e]
  simp only [pys_str, Option.map_some]
theorem lay_strs : ∀ {l : List Str}, (∀ x ∈ l, PyData.strOk x = true) → PyData.canLayAll0 (l.map .str) = true
  | [], _ => by simp only [List.map_nil, PyData.canLayAll0]
  | x :: l, h => by
    have h1 := lay_strs (l := l) (fun y hy => h y (List.mem_cons_of_mem _ hy))
    have h2 := h x List.mem_cons_self
    simp only [List.map_cons, PyData.canLayAll0, PyData.canLay0, h1, h2, Bool.and_self]
theorem depth_strs : ∀ l : List Str, PyData.depthAll (l.map .str) = 0
  | [] => by simp only [List.map_nil, PyData.depthAll]
  | x :: l => by simp only [List.map_cons, PyData.depthAll, PyData.depth, depth_strs l]; rfl
theorem in_strs {h : LH} {k : Nat} {l : List Str} {b : Str} (e : h[k]? = some (.lst (l.map .str))) (hl : ∀ x ∈ l, PyData.strOk x = true) (hb : PyData.strOk b = true) : inD h (.str b) (.ref k) = some (decide (b ∈ l)) := by
  unfold inD
  simp only [e]
  have p1 : (D.str b).pyH h = some (.str b) := rfl
  rw [p1, pyH_strs e]
  have s1 : SeqAt.shaped (.str b) = true := by
    unfold SeqAt.shaped
    simp [PyData.canLay0, hb, PyData.depth]
  have s2 : SeqAt.shaped (.list (l.map .str)) = true := by
    unfold SeqAt.shaped
    simp [PyData.canLay0, lay_strs hl, PyData.depth, depth_strs]
  simp only [s1, s2, and_self, if_true]
  congr 1
  rw [List.any_map]
  have : ((fun z => PyData.eqv z (.str b)) ∘ PyData.str) = fun x => decide (x = b) := by
    funext x
    show PyData.eqv (.str x) (.str b) = _
    simp only [PyData.eqv, str_beq]
  rw [this]
  rw [Bool.eq_iff_iff]
  simp only [List.any_eq_true, decide_eq_true_eq]
  constructor
  · rintro ⟨x, hx, rfl⟩; exact hx
  · intro hb; exact ⟨b, hb, rfl⟩
end DL

namespace KK
open PySem PySem.Spec PyProof.Rows L2 DL
/-! ### the text -/
def topS (i : Nat) : Stmt := PySem.Challenge.pw_anyunits_k71_whole_weights.main.body.getD i (.Pass ⟨0, 0, 0, 0⟩)
abbrev s_law_hand : Stmt := topS 38
abbrev s_law_draw : Stmt := topS 39
abbrev s_law_names : Stmt := topS 42
abbrev s_law_low : Stmt := topS 41
abbrev s_law_weights : Stmt := topS 46
abbrev s_law_size : Stmt := topS 43
abbrev s_is_name : Stmt := topS 24
abbrev s_are_named_pairs : Stmt := topS 25
abbrev s_is_integer : Stmt := topS 8
abbrev s_is_dimension : Stmt := topS 26
abbrev s_check_dimension : Stmt := topS 27
abbrev s_divisor : Stmt := topS 10
abbrev s_made : Stmt := topS 12
abbrev s_raw_plus : Stmt := topS 14
abbrev s_raw_times : Stmt := topS 16
abbrev s_raw_weighs : Stmt := topS 35
abbrev s_is_fraction : Stmt := topS 11
abbrev s_are_weights : Stmt := topS 34
abbrev s_weighs : Stmt := topS 36
abbrev s_check_fraction : Stmt := topS 13
abbrev s_plus : Stmt := topS 17
abbrev s_raw_less : Stmt := topS 15
abbrev s_less : Stmt := topS 18
abbrev s_times : Stmt := topS 19
abbrev s_law_is : Stmt := topS 40
abbrev s_raw_together : Stmt := topS 28
abbrev s_together : Stmt := topS 29
abbrev s_apart : Stmt := topS 30
abbrev s_raw_raised : Stmt := topS 31
abbrev s_is_within : Stmt := topS 9
abbrev s_raised : Stmt := topS 32
abbrev s_law_refused : Stmt := topS 45
abbrev s_law_weighed : Stmt := topS 44
abbrev s_law : Stmt := topS 47
structure Top (K : PySem.W.Frag) (mg : Str → Option Value) : Prop where
  z_abs : mg "abs" = none
  z_all : mg "all" = none
  z_bool : mg "bool" = none
  z_dict : mg "dict" = none
  z_int : mg "int" = none
  z_isinstance : mg "isinstance" = none
  z_len : mg "len" = none
  z_list : mg "list" = none
  z_range : mg "range" = none
  z_sorted : mg "sorted" = none
  z_str : mg "str" = none
  z_tuple : mg "tuple" = none
  z_zip : mg "zip" = none
  g_LETTERS : GC K mg "LETTERS" (.str "abcdefghijklmnopqrstuvwxyz")
  g_MOST_NAME : GC K mg "MOST_NAME" (.int 8)
  g_MOST_POWER : GC K mg "MOST_POWER" (.int 100)
  g_NOUGHT : GC K mg "NOUGHT" (.tup [.int 0, .int 1])
  x_NoDimension : ExcT K mg "NoDimension"
  x_NoFraction : ExcT K mg "NoFraction"
  x_NoNumber : ExcT K mg "NoNumber"
  x_NoWeights : ExcT K mg "NoWeights"
  em_law_refused : ExcM K mg ["NoDimension", "NoWeights"] ["NoWeights", "NoDimension"]
  f_law_hand : ∃ f fd, mg "_law_hand" = some (.ref f) ∧ Fun K "_law_hand" "_law_hand" s_law_hand f fd ∧ Binds K fd ["script"] []
  f_law_draw : ∃ f fd, mg "_law_draw" = some (.ref f) ∧ Fun K "_law_draw" "_law_draw" s_law_draw f fd ∧ Binds K fd ["hand", "many"] []
  f_law_names : ∃ f fd, mg "_law_names" = some (.ref f) ∧ Fun K "_law_names" "_law_names" s_law_names f fd ∧ Binds K fd ["hand", "many"] []
  f_law_low : ∃ f fd, mg "_law_low" = some (.ref f) ∧ Fun K "_law_low" "_law_low" s_law_low f fd ∧ Binds K fd ["top", "bottom"] []
  f_law_weights : ∃ f fd, mg "_law_weights" = some (.ref f) ∧ Fun K "_law_weights" "_law_weights" s_law_weights f fd ∧ Binds K fd ["hand", "names"] []
  f_law_size : ∃ f fd, mg "_law_size" = some (.ref f) ∧ Fun K "_law_size" "_law_size" s_law_size f fd ∧ Binds K fd ["hand", "names", "most"] []
  f_is_name : ∃ f fd, mg "is_name" = some (.ref f) ∧ Fun K "is_name" "is_name" s_is_name f fd ∧ Binds K fd ["thing"] []
  f_are_named_pairs : ∃ f fd, mg "are_named_pairs" = some (.ref f) ∧ Fun K "are_named_pairs" "are_named_pairs" s_are_named_pairs f fd ∧ Binds K fd ["thing"] []
  f_is_integer : ∃ f fd, mg "is_integer" = some (.ref f) ∧ Fun K "is_integer" "is_integer" s_is_integer f fd ∧ Binds K fd ["thing"] []
  f_is_dimension : ∃ f fd, mg "is_dimension" = some (.ref f) ∧ Fun K "is_dimension" "is_dimension" s_is_dimension f fd ∧ Binds K fd ["thing"] []
  f_check_dimension : ∃ f fd, mg "check_dimension" = some (.ref f) ∧ Fun K "check_dimension" "check_dimension" s_check_dimension f fd ∧ Binds K fd ["thing"] []
  f_divisor : ∃ f fd, mg "divisor" = some (.ref f) ∧ Fun K "divisor" "divisor" s_divisor f fd ∧ Binds K fd ["x", "y"] []
  f_made : ∃ f fd, mg "made" = some (.ref f) ∧ Fun K "made" "made" s_made f fd ∧ Binds K fd ["top", "bottom"] []
  f_raw_plus : ∃ f fd, mg "raw_plus" = some (.ref f) ∧ Fun K "raw_plus" "raw_plus" s_raw_plus f fd ∧ Binds K fd ["x", "y"] []
  f_raw_times : ∃ f fd, mg "raw_times" = some (.ref f) ∧ Fun K "raw_times" "raw_times" s_raw_times f fd ∧ Binds K fd ["x", "y"] []
  f_raw_weighs : ∃ f fd, mg "raw_weighs" = some (.ref f) ∧ Fun K "raw_weighs" "raw_weighs" s_raw_weighs f fd ∧ Binds K fd ["weights", "dimension"] []
  f_is_fraction : ∃ f fd, mg "is_fraction" = some (.ref f) ∧ Fun K "is_fraction" "is_fraction" s_is_fraction f fd ∧ Binds K fd ["thing"] []
  f_are_weights : ∃ f fd, mg "are_weights" = some (.ref f) ∧ Fun K "are_weights" "are_weights" s_are_weights f fd ∧ Binds K fd ["thing"] []
  f_weighs : ∃ f fd, mg "weighs" = some (.ref f) ∧ Fun K "weighs" "weighs" s_weighs f fd ∧ Binds K fd ["weights", "dimension"] []
  f_check_fraction : ∃ f fd, mg "check_fraction" = some (.ref f) ∧ Fun K "check_fraction" "check_fraction" s_check_fraction f fd ∧ Binds K fd ["thing"] []
  f_plus : ∃ f fd, mg "plus" = some (.ref f) ∧ Fun K "plus" "plus" s_plus f fd ∧ Binds K fd ["x", "y"] []
  f_raw_less : ∃ f fd, mg "raw_less" = some (.ref f) ∧ Fun K "raw_less" "raw_less" s_raw_less f fd ∧ Binds K fd ["x", "y"] []
  f_less : ∃ f fd, mg "less" = some (.ref f) ∧ Fun K "less" "less" s_less f fd ∧ Binds K fd ["x", "y"] []
  f_times : ∃ f fd, mg "times" = some (.ref f) ∧ Fun K "times" "times" s_times f fd ∧ Binds K fd ["x", "y"] []
  f_law_is : ∃ f fd, mg "_law_is" = some (.ref f) ∧ Fun K "_law_is" "_law_is" s_law_is f fd ∧ Binds K fd ["got", "due"] []
  f_raw_together : ∃ f fd, mg "raw_together" = some (.ref f) ∧ Fun K "raw_together" "raw_together" s_raw_together f fd ∧ Binds K fd ["one", "other", "sign"] []
  f_together : ∃ f fd, mg "together" = some (.ref f) ∧ Fun K "together" "together" s_together f fd ∧ Binds K fd ["one", "other"] []
  f_apart : ∃ f fd, mg "apart" = some (.ref f) ∧ Fun K "apart" "apart" s_apart f fd ∧ Binds K fd ["one", "other"] []
  f_raw_raised : ∃ f fd, mg "raw_raised" = some (.ref f) ∧ Fun K "raw_raised" "raw_raised" s_raw_raised f fd ∧ Binds K fd ["one", "n"] []
  f_is_within : ∃ f fd, mg "is_within" = some (.ref f) ∧ Fun K "is_within" "is_within" s_is_within f fd ∧ Binds K fd ["thing", "low", "high"] []
  f_raised : ∃ f fd, mg "raised" = some (.ref f) ∧ Fun K "raised" "raised" s_raised f fd ∧ Binds K fd ["one", "n"] []
  f_law_refused : ∃ f fd, mg "_law_refused" = some (.ref f) ∧ Fun K "_law_refused" "_law_refused" s_law_refused f fd ∧ Binds K fd ["weights", "size"] []
  f_law_weighed : ∃ f fd, mg "_law_weighed" = some (.ref f) ∧ Fun K "_law_weighed" "_law_weighed" s_law_weighed f fd ∧ Binds K fd ["weights", "size"] []
section
variable {P : Program} {w : World} {K : PySem.W.Frag} {mg : Str → Option Value} {base : Heap}
noncomputable def law_hand_e1 : EM := eCall gAbs (aCons (eCall gInt (aCons (eV 2) (aNil))) (aNil))
noncomputable def law_hand_s1 : SM := sAsg (eComp (iSeq (eSl (eV 0) (oNone) (oSome (eC (.int 63))))) [2] (Tg.g (.nm 2)) (tTrue) (law_hand_e1)) (gN 1)
noncomputable def law_hand_s2 : SM := sRet (eLst (aCons (eV 1) (aCons (eC (.int 0)) (aCons (eC (.int 0)) (aCons (eBin gAdd (eC (.int 83)) (eBin gMul (eC (.int 7)) (eCall gLen (aCons (eV 1) (aNil))))) (aCons (eC (.int 0)) (aNil)))))))
noncomputable def D_law_hand : SM := sSeq (law_hand_s1) (law_hand_s2)
theorem sc_law_hand : FnScope ["script", "cells", "cell"] ["script"] (defScope s_law_hand) := ⟨rfl, rfl, rfl, by decide +kernel, rfl, by decide +kernel, by decide +kernel⟩
theorem b_law_hand (T : Top K mg) (cdv : Value) (A : Around) (outer : List Env) (s : Shared) (H : Hp) (E : XK) (f : Addr) (c : Cd (cxOf (L2.CX P w) P w K mg base ["script", "cells", "cell"] "_law_hand" (defScope s_law_hand) f cdv A outer s H E) (fun cls d _ H => E cls d H)) (hr : Room 0 (A.deeper (envOfC "_law_hand" (defScope s_law_hand) s.heap.objs.size f cdv))) :
    ISs (cxOf (L2.CX P w) P w K mg base ["script", "cells", "cell"] "_law_hand" (defScope s_law_hand) f cdv A outer s H E) (fun cls d _ H => E cls d H) (defBody s_law_hand) D_law_hand :=
    (is_cons (is_setLc 1 [("cell", 2)] c (ii_seq (i_sl (i_v 0) io_none (io_some i_int))) (blkOk_by rfl) (fun s1 H1 _ _ fp1 => (gt_n 2 (c.blk s1 H1 _ _ fp1).nd)) (fun s1 H1 _ _ fp1 => its_nil) (fun s1 H1 _ _ fp1 => (i_bi o_abs T.z_abs PyProof.Rows.boot_abs (ia_cons (i_ty o_int T.z_int PyProof.Rows.boot_int (ia_cons (i_v 2) ia_nil)) ia_nil))) (by decide) rfl)
    (is_one (is_ret (i_lst (ia_cons (i_v 1) (ia_cons i_int (ia_cons i_int (ia_cons (i_op o_add i_int (i_op o_mul i_int (i_bi o_len T.z_len PySem.boot_len (ia_cons (i_v 1) ia_nil)))) (ia_cons i_int ia_nil)))))))))
noncomputable def F_law_hand : FM := fnD 3 D_law_hand
theorem d_law_hand (T : Top K mg) : Dfn P w K mg base "_law_hand" 1 ["script"] F_law_hand := by
  obtain ⟨f, fd, hm, hF, hb⟩ := T.f_law_hand
  exact dfn_mk (N := ["script", "cells", "cell"]) hF hm sc_law_hand hb fun cdv A outer s H E c hr => b_law_hand T cdv A outer s H E f c hr
noncomputable def law_draw_s8 : SM := sAsg (eBin gIx (eBin gIx (eV 0) (eC (.int 0))) (eBin gIx (eV 0) (eC (.int 1)))) (gN 2)
noncomputable def law_draw_s9 : SM := sAsg (eBin gAdd (eBin gIx (eV 0) (eC (.int 1))) (eC (.int 1))) (gSt (eV 0) (eC (.int 1)))
noncomputable def law_draw_s10 : SM := sAsg (eBin gMod (eCall gInt (aCons (eBin gAdd (eBin gAdd (eBin gMul (eBin gIx (eV 0) (eC (.int 3))) (eC (.int 69621))) (eV 2)) (eC (.int 29))) (aNil))) (eC (.int 2147483629))) (gSt (eV 0) (eC (.int 3)))
noncomputable def law_draw_s11 : SM := sIf (tB (eBin gGe (eV 2) (eBin gPow (eC (.int 10)) (eC (.int 18))))) (sAsg (eV 2) (gSt (eV 0) (eC (.int 2)))) (sNx)
noncomputable def law_draw_s1 : SM := sIf (tAnd (tB (eBin gEq (eBin gIx (eV 0) (eC (.int 2))) (eC (.int 0)))) (tB (eBin gLt (eBin gIx (eV 0) (eC (.int 1))) (eCall gLen (aCons (eBin gIx (eV 0) (eC (.int 0))) (aNil)))))) (sSeq (law_draw_s8) (sSeq (law_draw_s9) (sSeq (law_draw_s10) (law_draw_s11)))) (sNx)
noncomputable def law_draw_s12 : SM := sAsg (eBin gMod (eCall gInt (aCons (eBin gIx (eV 0) (eC (.int 2))) (aNil))) (eV 1)) (gN 3)
noncomputable def law_draw_s13 : SM := sAsg (eBin gFdiv (eBin gIx (eV 0) (eC (.int 2))) (eV 1)) (gSt (eV 0) (eC (.int 2)))
noncomputable def law_draw_s14 : SM := sRet (eV 3)
noncomputable def law_draw_s2 : SM := sIf (tB (eBin gGt (eBin gIx (eV 0) (eC (.int 2))) (eC (.int 0)))) (sSeq (law_draw_s12) (sSeq (law_draw_s13) (law_draw_s14))) (sNx)
noncomputable def law_draw_s3 : SM := sAsg (eBin gAdd (eBin gIx (eV 0) (eC (.int 4))) (eC (.int 1))) (gSt (eV 0) (eC (.int 4)))
noncomputable def law_draw_s4 : SM := sAsg (eBin gMod (eCall gInt (aCons (eBin gMul (eCall gInt (aCons (eBin gAdd (eBin gIx (eV 0) (eC (.int 3))) (eBin gMul (eC (.int 7919)) (eBin gIx (eV 0) (eC (.int 4))))) (aNil))) (eC (.int 48271))) (aNil))) (eC (.int 2147483647))) (gN 4)
noncomputable def law_draw_s5 : SM := sAsg (eBin gMod (eCall gInt (aCons (eBin gMul (eV 4) (eBin gAdd (eBin gFdiv (eV 4) (eC (.int 1009))) (eC (.int 69621)))) (aNil))) (eC (.int 2147483647))) (gN 4)
noncomputable def law_draw_s6 : SM := sAsg (eBin gMod (eCall gInt (aCons (eBin gMul (eV 4) (eBin gAdd (eBin gFdiv (eV 4) (eC (.int 2003))) (eC (.int 40692)))) (aNil))) (eC (.int 2147483399))) (gN 4)
noncomputable def law_draw_s7 : SM := sRet (eBin gMod (eCall gInt (aCons (eBin gFdiv (eV 4) (eC (.int 16))) (aNil))) (eV 1))
noncomputable def D_law_draw : SM := sSeq (law_draw_s1) (sSeq (law_draw_s2) (sSeq (law_draw_s3) (sSeq (law_draw_s4) (sSeq (law_draw_s5) (sSeq (law_draw_s6) (law_draw_s7))))))
theorem sc_law_draw : FnScope ["hand", "many", "cell", "digit", "number"] ["hand", "many"] (defScope s_law_draw) := ⟨rfl, rfl, rfl, by decide +kernel, rfl, by decide +kernel, by decide +kernel⟩
theorem b_law_draw (T : Top K mg) (cdv : Value) (A : Around) (outer : List Env) (s : Shared) (H : Hp) (E : XK) (f : Addr) (c : Cd (cxOf (L2.CX P w) P w K mg base ["hand", "many", "cell", "digit", "number"] "_law_draw" (defScope s_law_draw) f cdv A outer s H E) (fun cls d _ H => E cls d H)) (hr : Room 0 (A.deeper (envOfC "_law_draw" (defScope s_law_draw) s.heap.objs.size f cdv))) :
    ISs (cxOf (L2.CX P w) P w K mg base ["hand", "many", "cell", "digit", "number"] "_law_draw" (defScope s_law_draw) f cdv A outer s H E) (fun cls d _ H => E cls d H) (defBody s_law_draw) D_law_draw :=
    (is_cons (is_if (it_w (iw_and (it_cmp (o_eq (hu64 hr)) (i_ix (o_ix (hu1 hr)) (i_v 0) i_int (fun _ _ => rfl)) i_int rfl) (iw_and1 (it_cmp o_lt (i_ix (o_ix (hu1 hr)) (i_v 0) i_int (fun _ _ => rfl)) (i_bi o_len T.z_len PySem.boot_len (ia_cons (i_ix (o_ix (hu1 hr)) (i_v 0) i_int (fun _ _ => rfl)) ia_nil)) rfl)))) (is_cons (is_set 2 c.nd (i_ix (o_ix (hu1 hr)) (i_ix (o_ix (hu1 hr)) (i_v 0) i_int (fun _ _ => rfl)) (i_ix (o_ix (hu1 hr)) (i_v 0) i_int (fun _ _ => rfl)) (fun _ _ => rfl)))
    (is_cons (is_asg (i_op o_add (i_ix (o_ix (hu1 hr)) (i_v 0) i_int (fun _ _ => rfl)) i_int) (ig_st (W := W0) (hu1 hr) (i_v 0) i_int))
    (is_cons (is_asg (i_op o_mod (i_ty o_int T.z_int PyProof.Rows.boot_int (ia_cons (i_op o_add (i_op o_add (i_op o_mul (i_ix (o_ix (hu1 hr)) (i_v 0) i_int (fun _ _ => rfl)) i_int) (i_v 2)) i_int) ia_nil)) i_int) (ig_st (W := W0) (hu1 hr) (i_v 0) i_int))
    (is_one (is_if (it_cmp o_ge (i_v 2) (i_op o_pow i_int i_int) rfl) (is_one (is_asg (i_v 2) (ig_st (W := W0) (hu1 hr) (i_v 0) i_int))) is_nil))))) is_nil)
    (is_cons (is_if (it_cmp o_gt (i_ix (o_ix (hu1 hr)) (i_v 0) i_int (fun _ _ => rfl)) i_int rfl) (is_cons (is_set 3 c.nd (i_op o_mod (i_ty o_int T.z_int PyProof.Rows.boot_int (ia_cons (i_ix (o_ix (hu1 hr)) (i_v 0) i_int (fun _ _ => rfl)) ia_nil)) (i_v 1)))
    (is_cons (is_asg (i_op o_fdiv (i_ix (o_ix (hu1 hr)) (i_v 0) i_int (fun _ _ => rfl)) (i_v 1)) (ig_st (W := W0) (hu1 hr) (i_v 0) i_int))
    (is_one (is_ret (i_v 3))))) is_nil)
    (is_cons (is_asg (i_op o_add (i_ix (o_ix (hu1 hr)) (i_v 0) i_int (fun _ _ => rfl)) i_int) (ig_st (W := W0) (hu1 hr) (i_v 0) i_int))
    (is_cons (is_set 4 c.nd (i_op o_mod (i_ty o_int T.z_int PyProof.Rows.boot_int (ia_cons (i_op o_mul (i_ty o_int T.z_int PyProof.Rows.boot_int (ia_cons (i_op o_add (i_ix (o_ix (hu1 hr)) (i_v 0) i_int (fun _ _ => rfl)) (i_op o_mul i_int (i_ix (o_ix (hu1 hr)) (i_v 0) i_int (fun _ _ => rfl)))) ia_nil)) i_int) ia_nil)) i_int))
    (is_cons (is_set 4 c.nd (i_op o_mod (i_ty o_int T.z_int PyProof.Rows.boot_int (ia_cons (i_op o_mul (i_v 4) (i_op o_add (i_op o_fdiv (i_v 4) i_int) i_int)) ia_nil)) i_int))
    (is_cons (is_set 4 c.nd (i_op o_mod (i_ty o_int T.z_int PyProof.Rows.boot_int (ia_cons (i_op o_mul (i_v 4) (i_op o_add (i_op o_fdiv (i_v 4) i_int) i_int)) ia_nil)) i_int))
    (is_one (is_ret (i_op o_mod (i_ty o_int T.z_int PyProof.Rows.boot_int (ia_cons (i_op o_fdiv (i_v 4) i_int) ia_nil)) (i_v 1))))))))))
noncomputable def F_law_draw : FM := fnD 5 D_law_draw
theorem d_law_draw (T : Top K mg) : Dfn P w K mg base "_law_draw" 1 ["hand", "many"] F_law_draw := by
  obtain ⟨f, fd, hm, hF, hb⟩ := T.f_law_draw
  exact dfn_mk (N := ["hand", "many", "cell", "digit", "number"]) hF hm sc_law_draw hb fun cdv A outer s H E c hr => b_law_draw T cdv A outer s H E f c hr
noncomputable def law_names_s1 : SM := sAsg (eC (.str "abcdefghijklmnopqrstuvwxyz")) (gN 2)
noncomputable def law_names_s2 : SM := sAsg (eNewD) (gN 3)
noncomputable def law_names_s5 : SM := sAsg (eBin gIx (eV 2) (eF 2 F_law_draw (aCons (eV 0) (aCons (eC (.int 26)) (aNil))))) (gN 5)
noncomputable def law_names_b1 : SM := sAsg (eBin gAdd (eV 5) (eBin gIx (eV 2) (eF 2 F_law_draw (aCons (eV 0) (aCons (eC (.int 26)) (aNil)))))) (gN 5)
noncomputable def law_names_s6 : SM := sFor (iRng (fun δ h => bnd ((aCons (eF 2 F_law_draw (aCons (eV 0) (aCons (eC (.int 8)) (aNil)))) (aNil)) δ h) fun ds h1 => if ds.length = 1 then some (.ok ds h1) else none)) (gN 4) (law_names_b1)
noncomputable def law_names_s7 : SM := sAsg (eC (.bl true)) (gSt (eV 3) (eV 5))
noncomputable def law_names_b2 : SM := sSeq (law_names_s5) (sSeq (law_names_s6) (law_names_s7))
noncomputable def law_names_s3 : SM := sFor (iRng (fun δ h => bnd ((aCons (eV 1) (aNil)) δ h) fun ds h1 => if ds.length = 1 then some (.ok ds h1) else none)) (gN 4) (law_names_b2)
noncomputable def law_names_s4 : SM := sRet (eCall gSorted (aCons (eV 3) (aNil)))
noncomputable def D_law_names : SM := sSeq (law_names_s1) (sSeq (law_names_s2) (sSeq (law_names_s3) (law_names_s4)))
theorem sc_law_names : FnScope ["hand", "many", "letters", "found", "_", "name"] ["hand", "many"] (defScope s_law_names) := ⟨rfl, rfl, rfl, by decide +kernel, rfl, by decide +kernel, by decide +kernel⟩
theorem b_law_names (T : Top K mg) (cdv : Value) (A : Around) (outer : List Env) (s : Shared) (H : Hp) (E : XK) (f : Addr) (c : Cd (cxOf (L2.CX P w) P w K mg base ["hand", "many", "letters", "found", "_", "name"] "_law_names" (defScope s_law_names) f cdv A outer s H E) (fun cls d _ H => E cls d H)) (hr : Room 1 (A.deeper (envOfC "_law_names" (defScope s_law_names) s.heap.objs.size f cdv))) :
    ISs (cxOf (L2.CX P w) P w K mg base ["hand", "many", "letters", "found", "_", "name"] "_law_names" (defScope s_law_names) f cdv A outer s H E) (fun cls d _ H => E cls d H) (defBody s_law_names) D_law_names :=
    (is_cons (is_set 2 c.nd i_str)
    (is_cons (is_set 3 c.nd i_newD)
    (is_cons (is_for c (ii_rng1 (ia_cons (i_v 1) ia_nil) T.z_range) (ig_n 4 c.nd) (is_cons (is_set 5 c.nd (i_ix (o_ix (hu1 hr)) (i_v 2) (i_call c (d_law_draw T) hr (ia_cons (i_v 0) (ia_cons i_int ia_nil))) (fun _ _ => rfl)))
    (is_cons (is_for c (ii_rng1 (ia_cons (i_call c (d_law_draw T) hr (ia_cons (i_v 0) (ia_cons i_int ia_nil))) ia_nil) T.z_range) (ig_n 4 c.nd) (is_one (is_set 5 c.nd (i_op o_add (i_v 5) (i_ix (o_ix (hu1 hr)) (i_v 2) (i_call c (d_law_draw T) hr (ia_cons (i_v 0) (ia_cons i_int ia_nil))) (fun _ _ => rfl))))))
    (is_one (is_asg i_bl (ig_st (W := W0) (hu1 hr) (i_v 3) (i_v 5)))))))
    (is_one (is_ret (i_bi (o_sorted c.calm) T.z_sorted PyProof.Rows.boot_sorted (ia_cons (i_v 3) ia_nil)))))))
noncomputable def F_law_names : FM := fnD 6 D_law_names
theorem d_law_names (T : Top K mg) : Dfn P w K mg base "_law_names" 2 ["hand", "many"] F_law_names := by
  obtain ⟨f, fd, hm, hF, hb⟩ := T.f_law_names
  exact dfn_mk (N := ["hand", "many", "letters", "found", "_", "name"]) hF hm sc_law_names hb fun cdv A outer s H E c hr => b_law_names T cdv A outer s H E f c hr
noncomputable def law_low_s1 : SM := sAsg (eCall gAbs (aCons (eV 0) (aNil))) (gN 2)
noncomputable def law_low_s2 : SM := sAsg (eCall gAbs (aCons (eV 1) (aNil))) (gN 3)
noncomputable def law_low_s6 : SM := sAsg (eBin gMod (eCall gInt (aCons (eV 2) (aNil))) (eV 3)) (gN 4)
noncomputable def law_low_s7 : SM := sAsg (eV 3) (gN 2)
noncomputable def law_low_s8 : SM := sAsg (eV 4) (gN 3)
noncomputable def law_low_c1 : TM := tB (eBin gGt (eV 3) (eC (.int 0)))
noncomputable def law_low_b1 : SM := sSeq (law_low_s6) (sSeq (law_low_s7) (law_low_s8))
noncomputable def law_low_s3 : SM := sWh (law_low_c1) (law_low_b1)
noncomputable def law_low_s4 : SM := sIf (tB (eBin gLt (eV 1) (eC (.int 0)))) (sAsg (eBin gSub (eC (.int 0)) (eV 2)) (gN 2)) (sNx)
noncomputable def law_low_s5 : SM := sRet (eTup (aCons (eBin gFdiv (eV 0) (eV 2)) (aCons (eBin gFdiv (eV 1) (eV 2)) (aNil))))
noncomputable def D_law_low : SM := sSeq (law_low_s1) (sSeq (law_low_s2) (sSeq (law_low_s3) (sSeq (law_low_s4) (law_low_s5))))
theorem sc_law_low : FnScope ["top", "bottom", "one", "other", "rest"] ["top", "bottom"] (defScope s_law_low) := ⟨rfl, rfl, rfl, by decide +kernel, rfl, by decide +kernel, by decide +kernel⟩
theorem b_law_low (T : Top K mg) (cdv : Value) (A : Around) (outer : List Env) (s : Shared) (H : Hp) (E : XK) (f : Addr) (c : Cd (cxOf (L2.CX P w) P w K mg base ["top", "bottom", "one", "other", "rest"] "_law_low" (defScope s_law_low) f cdv A outer s H E) (fun cls d _ H => E cls d H)) (hr : Room 0 (A.deeper (envOfC "_law_low" (defScope s_law_low) s.heap.objs.size f cdv))) :
    ISs (cxOf (L2.CX P w) P w K mg base ["top", "bottom", "one", "other", "rest"] "_law_low" (defScope s_law_low) f cdv A outer s H E) (fun cls d _ H => E cls d H) (defBody s_law_low) D_law_low :=
    (is_cons (is_set 2 c.nd (i_bi o_abs T.z_abs PyProof.Rows.boot_abs (ia_cons (i_v 0) ia_nil)))
    (is_cons (is_set 3 c.nd (i_bi o_abs T.z_abs PyProof.Rows.boot_abs (ia_cons (i_v 1) ia_nil)))
    (is_cons (is_wh c.po (it_cmp o_gt (i_v 3) i_int rfl) (is_cons (is_set 4 c.nd (i_op o_mod (i_ty o_int T.z_int PyProof.Rows.boot_int (ia_cons (i_v 2) ia_nil)) (i_v 3)))
    (is_cons (is_set 2 c.nd (i_v 3))
    (is_one (is_set 3 c.nd (i_v 4))))))
    (is_cons (is_if (it_cmp o_lt (i_v 1) i_int rfl) (is_one (is_set 2 c.nd (i_op o_sub i_int (i_v 2)))) is_nil)
    (is_one (is_ret (i_tup (ia_cons (i_op o_fdiv (i_v 0) (i_v 2)) (ia_cons (i_op o_fdiv (i_v 1) (i_v 2)) ia_nil)))))))))
noncomputable def F_law_low : FM := fnD 5 D_law_low
theorem d_law_low (T : Top K mg) : Dfn P w K mg base "_law_low" 1 ["top", "bottom"] F_law_low := by
  obtain ⟨f, fd, hm, hF, hb⟩ := T.f_law_low
  exact dfn_mk (N := ["top", "bottom", "one", "other", "rest"]) hF hm sc_law_low hb fun cdv A outer s H E c hr => b_law_low T cdv A outer s H E f c hr
noncomputable def law_weights_s1 : SM := sAsg (eLst (aNil)) (gN 2)
noncomputable def law_weights_s4 : SM := sAsg (eBin gSub (eF 2 F_law_draw (aCons (eV 0) (aCons (eBin gPow (eC (.int 10)) (eC (.int 6))) (aNil)))) (eBin gPow (eC (.int 10)) (eC (.int 5)))) (gN 4)
noncomputable def law_weights_s5 : SM := sIf (tAnd (tB (eBin gNe (eV 4) (eC (.int 0)))) (tB (eBin gGt (eF 2 F_law_draw (aCons (eV 0) (aCons (eC (.int 3)) (aNil)))) (eC (.int 0))))) (sExpr (eMeth "list" gAppend (eV 2) (aCons (eTup (aCons (eV 3) (aCons (eF 2 F_law_low (aCons (eV 4) (aCons (eBin gAdd (eC (.int 1)) (eF 2 F_law_draw (aCons (eV 0) (aCons (eBin gPow (eC (.int 10)) (eC (.int 6))) (aNil))))) (aNil)))) (aNil)))) (aNil)))) (sNx)
noncomputable def law_weights_b1 : SM := sSeq (law_weights_s4) (law_weights_s5)
noncomputable def law_weights_s2 : SM := sFor (iSeq (eV 1)) (gN 3) (law_weights_b1)
noncomputable def law_weights_s3 : SM := sRet (eCall gTuple (aCons (eV 2) (aNil)))
noncomputable def D_law_weights : SM := sSeq (law_weights_s1) (sSeq (law_weights_s2) (law_weights_s3))
theorem sc_law_weights : FnScope ["hand", "names", "found", "name", "top"] ["hand", "names"] (defScope s_law_weights) := ⟨rfl, rfl, rfl, by decide +kernel, rfl, by decide +kernel, by decide +kernel⟩
theorem b_law_weights (T : Top K mg) (cdv : Value) (A : Around) (outer : List Env) (s : Shared) (H : Hp) (E : XK) (f : Addr) (c : Cd (cxOf (L2.CX P w) P w K mg base ["hand", "names", "found", "name", "top"] "_law_weights" (defScope s_law_weights) f cdv A outer s H E) (fun cls d _ H => E cls d H)) (hr : Room 1 (A.deeper (envOfC "_law_weights" (defScope s_law_weights) s.heap.objs.size f cdv))) :
    ISs (cxOf (L2.CX P w) P w K mg base ["hand", "names", "found", "name", "top"] "_law_weights" (defScope s_law_weights) f cdv A outer s H E) (fun cls d _ H => E cls d H) (defBody s_law_weights) D_law_weights :=
    (is_cons (is_set 2 c.nd (i_lst ia_nil))
    (is_cons (is_for c (ii_seq (i_v 1)) (ig_n 3 c.nd) (is_cons (is_set 4 c.nd (i_op o_sub (i_call c (d_law_draw T) hr (ia_cons (i_v 0) (ia_cons (i_op o_pow i_int i_int) ia_nil))) (i_op o_pow i_int i_int)))
    (is_one (is_if (it_w (iw_and (it_cmp (o_ne (hu64 hr)) (i_v 4) i_int rfl) (iw_and1 (it_cmp o_gt (i_call c (d_law_draw T) hr (ia_cons (i_v 0) (ia_cons i_int ia_nil))) i_int rfl)))) (is_one (is_expr (i_meth m_append PySem.F.plainAttrs_list PySem.F.slot_list_append PySem.F.type_list_append (i_v 2) (ia_cons (i_tup (ia_cons (i_v 3) (ia_cons (i_call c (d_law_low T) hr (ia_cons (i_v 4) (ia_cons (i_op o_add i_int (i_call c (d_law_draw T) hr (ia_cons (i_v 0) (ia_cons (i_op o_pow i_int i_int) ia_nil)))) ia_nil))) ia_nil))) ia_nil)))) is_nil))))
    (is_one (is_ret (i_ty o_tuple T.z_tuple PyProof.Rows.boot_tuple (ia_cons (i_v 2) ia_nil))))))
noncomputable def F_law_weights : FM := fnD 5 D_law_weights
theorem d_law_weights (T : Top K mg) : Dfn P w K mg base "_law_weights" 2 ["hand", "names"] F_law_weights := by
  obtain ⟨f, fd, hm, hF, hb⟩ := T.f_law_weights
  exact dfn_mk (N := ["hand", "names", "found", "name", "top"]) hF hm sc_law_weights hb fun cdv A outer s H E c hr => b_law_weights T cdv A outer s H E f c hr
noncomputable def law_size_s1 : SM := sAsg (eLst (aNil)) (gN 3)
noncomputable def law_size_s4 : SM := sAsg (eBin gSub (eF 2 F_law_draw (aCons (eV 0) (aCons (eBin gMul (eC (.int 2)) (eV 2)) (aNil)))) (eV 2)) (gN 5)
noncomputable def law_size_s5 : SM := sExpr (eMeth "list" gAppend (eV 3) (aCons (eTup (aCons (eV 4) (aCons (eBin gAdd (eV 5) (eCall gInt (aCons (eBin gGe (eV 5) (eC (.int 0))) (aNil)))) (aNil)))) (aNil)))
noncomputable def law_size_b1 : SM := sIf (tB (eBin gEq (eF 2 F_law_draw (aCons (eV 0) (aCons (eC (.int 2)) (aNil)))) (eC (.int 0)))) (sSeq (law_size_s4) (law_size_s5)) (sNx)
noncomputable def law_size_s2 : SM := sFor (iSeq (eV 1)) (gN 4) (law_size_b1)
noncomputable def law_size_s3 : SM := sRet (eCall gTuple (aCons (eV 3) (aNil)))
noncomputable def D_law_size : SM := sSeq (law_size_s1) (sSeq (law_size_s2) (law_size_s3))
theorem sc_law_size : FnScope ["hand", "names", "most", "found", "name", "power"] ["hand", "names", "most"] (defScope s_law_size) := ⟨rfl, rfl, rfl, by decide +kernel, rfl, by decide +kernel, by decide +kernel⟩
theorem b_law_size (T : Top K mg) (cdv : Value) (A : Around) (outer : List Env) (s : Shared) (H : Hp) (E : XK) (f : Addr) (c : Cd (cxOf (L2.CX P w) P w K mg base ["hand", "names", "most", "found", "name", "power"] "_law_size" (defScope s_law_size) f cdv A outer s H E) (fun cls d _ H => E cls d H)) (hr : Room 1 (A.deeper (envOfC "_law_size" (defScope s_law_size) s.heap.objs.size f cdv))) :
    ISs (cxOf (L2.CX P w) P w K mg base ["hand", "names", "most", "found", "name", "power"] "_law_size" (defScope s_law_size) f cdv A outer s H E) (fun cls d _ H => E cls d H) (defBody s_law_size) D_law_size :=
    (is_cons (is_set 3 c.nd (i_lst ia_nil))
    (is_cons (is_for c (ii_seq (i_v 1)) (ig_n 4 c.nd) (is_one (is_if (it_cmp (o_eq (hu64 hr)) (i_call c (d_law_draw T) hr (ia_cons (i_v 0) (ia_cons i_int ia_nil))) i_int rfl) (is_cons (is_set 5 c.nd (i_op o_sub (i_call c (d_law_draw T) hr (ia_cons (i_v 0) (ia_cons (i_op o_mul i_int (i_v 2)) ia_nil))) (i_v 2)))
    (is_one (is_expr (i_meth m_append PySem.F.plainAttrs_list PySem.F.slot_list_append PySem.F.type_list_append (i_v 3) (ia_cons (i_tup (ia_cons (i_v 4) (ia_cons (i_op o_add (i_v 5) (i_ty o_int T.z_int PyProof.Rows.boot_int (ia_cons (i_cmp o_ge (i_v 5) i_int rfl) ia_nil))) ia_nil))) ia_nil))))) is_nil)))
    (is_one (is_ret (i_ty o_tuple T.z_tuple PyProof.Rows.boot_tuple (ia_cons (i_v 3) ia_nil))))))
noncomputable def F_law_size : FM := fnD 6 D_law_size
theorem d_law_size (T : Top K mg) : Dfn P w K mg base "_law_size" 2 ["hand", "names", "most"] F_law_size := by
  obtain ⟨f, fd, hm, hF, hb⟩ := T.f_law_size
  exact dfn_mk (N := ["hand", "names", "most", "found", "name", "power"]) hF hm sc_law_size hb fun cdv A outer s H E c hr => b_law_size T cdv A outer s H E f c hr
noncomputable def is_name_e1 : EM := eBin gIn (eV 1) (eC (.str "abcdefghijklmnopqrstuvwxyz"))
noncomputable def D_is_name : SM := sRet (eAnd (eUn (gIsi ["str"]) (eV 0)) (eAnd (eChain gLe gLe (eC (.int 1)) (eCall gLen (aCons (eV 0) (aNil))) (eC (.int 8))) (eCall gAll (aCons (eComp (iSeq (eV 0)) [1] (Tg.g (.nm 1)) (tTrue) (is_name_e1)) (aNil)))))
theorem sc_is_name : FnScope ["thing", "sign"] ["thing"] (defScope s_is_name) := ⟨rfl, rfl, rfl, by decide +kernel, rfl, by decide +kernel, by decide +kernel⟩
theorem b_is_name (T : Top K mg) (cdv : Value) (A : Around) (outer : List Env) (s : Shared) (H : Hp) (E : XK) (f : Addr) (c : Cd (cxOf (L2.CX P w) P w K mg base ["thing", "sign"] "is_name" (defScope s_is_name) f cdv A outer s H E) (fun cls d _ H => E cls d H)) (hr : Room 0 (A.deeper (envOfC "is_name" (defScope s_is_name) s.heap.objs.size f cdv))) :
    ISs (cxOf (L2.CX P w) P w K mg base ["thing", "sign"] "is_name" (defScope s_is_name) f cdv A outer s H E) (fun cls d _ H => E cls d H) (defBody s_is_name) D_is_name :=
    (is_one (is_ret (i_and (i_isi "str" (i_v 0) (by decide) T.z_isinstance T.z_str (boot_all "str" (by decide))) (i_and (i_chain o_le o_le i_int (i_bi o_len T.z_len PySem.boot_len (ia_cons (i_v 0) ia_nil)) (i_gc T.g_MOST_NAME)) (i_one (i_bi (o_all c.calm) T.z_all PyProof.Rows.boot_all (ia_cons (i_comp [("sign", 1)] c (ii_seq (i_v 0)) (blkOk_by rfl) (fun s1 H1 _ _ fp1 => (gt_n 1 (c.blk s1 H1 _ _ fp1).nd)) (fun s1 H1 _ _ fp1 => its_nil) (fun s1 H1 _ _ fp1 => (i_cmp (o_in (hu65 hr)) (i_v 1) (i_gc T.g_LETTERS) rfl)) (by decide)) ia_nil)))))))
noncomputable def F_is_name : FM := fnD 2 D_is_name
theorem d_is_name (T : Top K mg) : Dfn P w K mg base "is_name" 1 ["thing"] F_is_name := by
  obtain ⟨f, fd, hm, hF, hb⟩ := T.f_is_name
  exact dfn_mk (N := ["thing", "sign"]) hF hm sc_is_name hb fun cdv A outer s H E c hr => b_is_name T cdv A outer s H E f c hr
noncomputable def are_named_pairs_s1 : SM := sIf (tNot (tV (eUn (gIsi ["tuple"]) (eV 0)))) (sRet (eC (.bl false))) (sNx)
noncomputable def are_named_pairs_e1 : EM := eAnd (eUn (gIsi ["tuple"]) (eV 1)) (eAnd (eBin gEq (eCall gLen (aCons (eV 1) (aNil))) (eC (.int 2))) (eF 1 F_is_name (aCons (eBin gIx (eV 1) (eC (.int 0))) (aNil))))
noncomputable def are_named_pairs_s2 : SM := sIf (tNot (tV (eCall gAll (aCons (eComp (iSeq (eV 0)) [1] (Tg.g (.nm 1)) (tTrue) (are_named_pairs_e1)) (aNil))))) (sRet (eC (.bl false))) (sNx)
noncomputable def are_named_pairs_e2 : EM := eBin gLt (eBin gIx (eBin gIx (eV 0) (eV 2)) (eC (.int 0))) (eBin gIx (eBin gIx (eV 0) (eBin gAdd (eV 2) (eC (.int 1)))) (eC (.int 0)))
noncomputable def are_named_pairs_s3 : SM := sRet (eCall gAll (aCons (eComp (iRng (fun δ h => bnd ((aCons (eBin gSub (eCall gLen (aCons (eV 0) (aNil))) (eC (.int 1))) (aNil)) δ h) fun ds h1 => if ds.length = 1 then some (.ok ds h1) else none)) [2] (Tg.g (.nm 2)) (tTrue) (are_named_pairs_e2)) (aNil)))
noncomputable def D_are_named_pairs : SM := sSeq (are_named_pairs_s1) (sSeq (are_named_pairs_s2) (are_named_pairs_s3))
theorem sc_are_named_pairs : FnScope ["thing", "pair", "at"] ["thing"] (defScope s_are_named_pairs) := ⟨rfl, rfl, rfl, by decide +kernel, rfl, by decide +kernel, by decide +kernel⟩
theorem b_are_named_pairs (T : Top K mg) (cdv : Value) (A : Around) (outer : List Env) (s : Shared) (H : Hp) (E : XK) (f : Addr) (c : Cd (cxOf (L2.CX P w) P w K mg base ["thing", "pair", "at"] "are_named_pairs" (defScope s_are_named_pairs) f cdv A outer s H E) (fun cls d _ H => E cls d H)) (hr : Room 1 (A.deeper (envOfC "are_named_pairs" (defScope s_are_named_pairs) s.heap.objs.size f cdv))) :
    ISs (cxOf (L2.CX P w) P w K mg base ["thing", "pair", "at"] "are_named_pairs" (defScope s_are_named_pairs) f cdv A outer s H E) (fun cls d _ H => E cls d H) (defBody s_are_named_pairs) D_are_named_pairs :=
    (is_cons (is_if (it_not (it_v (i_isi "tuple" (i_v 0) (by decide) T.z_isinstance T.z_tuple (boot_all "tuple" (by decide))))) (is_one (is_ret i_bl)) is_nil)
    (is_cons (is_if (it_not (it_v (i_bi (o_all c.calm) T.z_all PyProof.Rows.boot_all (ia_cons (i_comp [("pair", 1)] c (ii_seq (i_v 0)) (blkOk_by rfl) (fun s1 H1 _ _ fp1 => (gt_n 1 (c.blk s1 H1 _ _ fp1).nd)) (fun s1 H1 _ _ fp1 => its_nil) (fun s1 H1 _ _ fp1 => (i_and (i_isi "tuple" (i_v 1) (by decide) T.z_isinstance T.z_tuple (boot_all "tuple" (by decide))) (i_and (i_cmp (o_eq (hu64 hr)) (i_bi o_len T.z_len PySem.boot_len (ia_cons (i_v 1) ia_nil)) i_int rfl) (i_one (i_call (c.blk s1 H1 _ _ fp1) (d_is_name T) hr (ia_cons (i_ix (o_ix (hu1 hr)) (i_v 1) i_int (fun _ _ => rfl)) ia_nil)))))) (by decide)) ia_nil)))) (is_one (is_ret i_bl)) is_nil)
    (is_one (is_ret (i_bi (o_all c.calm) T.z_all PyProof.Rows.boot_all (ia_cons (i_comp [("at", 2)] c (ii_rng1 (ia_cons (i_op o_sub (i_bi o_len T.z_len PySem.boot_len (ia_cons (i_v 0) ia_nil)) i_int) ia_nil) T.z_range) (blkOk_by rfl) (fun s1 H1 _ _ fp1 => (gt_n 2 (c.blk s1 H1 _ _ fp1).nd)) (fun s1 H1 _ _ fp1 => its_nil) (fun s1 H1 _ _ fp1 => (i_cmp o_lt (i_ix (o_ix (hu1 hr)) (i_ix (o_ix (hu1 hr)) (i_v 0) (i_v 2) (fun _ _ => rfl)) i_int (fun _ _ => rfl)) (i_ix (o_ix (hu1 hr)) (i_ix (o_ix (hu1 hr)) (i_v 0) (i_op o_add (i_v 2) i_int) (fun _ _ => rfl)) i_int (fun _ _ => rfl)) rfl)) (by decide)) ia_nil))))))
noncomputable def F_are_named_pairs : FM := fnD 3 D_are_named_pairs
theorem d_are_named_pairs (T : Top K mg) : Dfn P w K mg base "are_named_pairs" 2 ["thing"] F_are_named_pairs := by
  obtain ⟨f, fd, hm, hF, hb⟩ := T.f_are_named_pairs
  exact dfn_mk (N := ["thing", "pair", "at"]) hF hm sc_are_named_pairs hb fun cdv A outer s H E c hr => b_are_named_pairs T cdv A outer s H E f c hr
noncomputable def D_is_integer : SM := sRet (eAnd (eUn (gIsi ["int"]) (eV 0)) (eNot (eUn (gIsi ["bool"]) (eV 0))))
theorem sc_is_integer : FnScope ["thing"] ["thing"] (defScope s_is_integer) := ⟨rfl, rfl, rfl, by decide +kernel, rfl, by decide +kernel, by decide +kernel⟩
theorem b_is_integer (T : Top K mg) (cdv : Value) (A : Around) (outer : List Env) (s : Shared) (H : Hp) (E : XK) (f : Addr) (c : Cd (cxOf (L2.CX P w) P w K mg base ["thing"] "is_integer" (defScope s_is_integer) f cdv A outer s H E) (fun cls d _ H => E cls d H)) (hr : Room 0 (A.deeper (envOfC "is_integer" (defScope s_is_integer) s.heap.objs.size f cdv))) :
    ISs (cxOf (L2.CX P w) P w K mg base ["thing"] "is_integer" (defScope s_is_integer) f cdv A outer s H E) (fun cls d _ H => E cls d H) (defBody s_is_integer) D_is_integer :=
    (is_one (is_ret (i_and (i_isi "int" (i_v 0) (by decide) T.z_isinstance T.z_int (boot_all "int" (by decide))) (i_one (i_not (i_isi "bool" (i_v 0) (by decide) T.z_isinstance T.z_bool (boot_all "bool" (by decide))))))))
noncomputable def F_is_integer : FM := fnD 1 D_is_integer
theorem d_is_integer (T : Top K mg) : Dfn P w K mg base "is_integer" 1 ["thing"] F_is_integer := by
  obtain ⟨f, fd, hm, hF, hb⟩ := T.f_is_integer
  exact dfn_mk (N := ["thing"]) hF hm sc_is_integer hb fun cdv A outer s H E c hr => b_is_integer T cdv A outer s H E f c hr
noncomputable def is_dimension_e1 : EM := eAnd (eF 1 F_is_integer (aCons (eV 2) (aNil))) (eBin gNe (eV 2) (eC (.int 0)))
noncomputable def D_is_dimension : SM := sRet (eAnd (eF 1 F_are_named_pairs (aCons (eV 0) (aNil))) (eCall gAll (aCons (eComp (iSeq (eV 0)) [1, 2] (Tg.g (.tup ((.nm 1) :: (.nm 2) :: []))) (tTrue) (is_dimension_e1)) (aNil))))
theorem sc_is_dimension : FnScope ["thing", "base", "n"] ["thing"] (defScope s_is_dimension) := ⟨rfl, rfl, rfl, by decide +kernel, rfl, by decide +kernel, by decide +kernel⟩
theorem b_is_dimension (T : Top K mg) (cdv : Value) (A : Around) (outer : List Env) (s : Shared) (H : Hp) (E : XK) (f : Addr) (c : Cd (cxOf (L2.CX P w) P w K mg base ["thing", "base", "n"] "is_dimension" (defScope s_is_dimension) f cdv A outer s H E) (fun cls d _ H => E cls d H)) (hr : Room 2 (A.deeper (envOfC "is_dimension" (defScope s_is_dimension) s.heap.objs.size f cdv))) :
    ISs (cxOf (L2.CX P w) P w K mg base ["thing", "base", "n"] "is_dimension" (defScope s_is_dimension) f cdv A outer s H E) (fun cls d _ H => E cls d H) (defBody s_is_dimension) D_is_dimension :=
    (is_one (is_ret (i_and (i_call c (d_are_named_pairs T) hr (ia_cons (i_v 0) ia_nil)) (i_one (i_bi (o_all c.calm) T.z_all PyProof.Rows.boot_all (ia_cons (i_comp [("base", 1), ("n", 2)] c (ii_seq (i_v 0)) (blkOk_by rfl) (fun s1 H1 _ _ fp1 => (gt_tup (c.blk s1 H1 _ _ fp1).calm (gts_cons (gt_n 1 (c.blk s1 H1 _ _ fp1).nd) (gts_cons (gt_n 2 (c.blk s1 H1 _ _ fp1).nd) gts_nil)))) (fun s1 H1 _ _ fp1 => its_nil) (fun s1 H1 _ _ fp1 => (i_and (i_call (c.blk s1 H1 _ _ fp1) (d_is_integer T) hr (ia_cons (i_v 2) ia_nil)) (i_one (i_cmp (o_ne (hu64 hr)) (i_v 2) i_int rfl)))) (by decide)) ia_nil))))))
noncomputable def F_is_dimension : FM := fnD 3 D_is_dimension
theorem d_is_dimension (T : Top K mg) : Dfn P w K mg base "is_dimension" 3 ["thing"] F_is_dimension := by
  obtain ⟨f, fd, hm, hF, hb⟩ := T.f_is_dimension
  exact dfn_mk (N := ["thing", "base", "n"]) hF hm sc_is_dimension hb fun cdv A outer s H E c hr => b_is_dimension T cdv A outer s H E f c hr
noncomputable def D_check_dimension : SM := sIf (tNot (tV (eF 1 F_is_dimension (aCons (eV 0) (aNil))))) (sRaise "NoDimension") (sNx)
theorem sc_check_dimension : FnScope ["thing"] ["thing"] (defScope s_check_dimension) := ⟨rfl, rfl, rfl, by decide +kernel, rfl, by decide +kernel, by decide +kernel⟩
theorem b_check_dimension (T : Top K mg) (cdv : Value) (A : Around) (outer : List Env) (s : Shared) (H : Hp) (E : XK) (f : Addr) (c : Cd (cxOf (L2.CX P w) P w K mg base ["thing"] "check_dimension" (defScope s_check_dimension) f cdv A outer s H E) (fun cls d _ H => E cls d H)) (hr : Room 3 (A.deeper (envOfC "check_dimension" (defScope s_check_dimension) s.heap.objs.size f cdv))) :
    ISs (cxOf (L2.CX P w) P w K mg base ["thing"] "check_dimension" (defScope s_check_dimension) f cdv A outer s H E) (fun cls d _ H => E cls d H) (defBody s_check_dimension) D_check_dimension :=
    (is_one (is_if (it_not (it_v (i_call c (d_is_dimension T) hr (ia_cons (i_v 0) ia_nil)))) (is_one (is_raise c T.x_NoDimension)) is_nil))
noncomputable def F_check_dimension : FM := fnD 1 D_check_dimension
theorem d_check_dimension (T : Top K mg) : Dfn P w K mg base "check_dimension" 4 ["thing"] F_check_dimension := by
  obtain ⟨f, fd, hm, hF, hb⟩ := T.f_check_dimension
  exact dfn_mk (N := ["thing"]) hF hm sc_check_dimension hb fun cdv A outer s H E c hr => b_check_dimension T cdv A outer s H E f c hr
noncomputable def divisor_c1 : TM := tB (eBin gNe (eV 1) (eC (.int 0)))
noncomputable def divisor_b1 : SM := sPar 0 1 (aCons (eV 1) (aCons (eBin gMod (eCall gInt (aCons (eV 0) (aNil))) (eV 1)) (aNil)))
noncomputable def divisor_s1 : SM := sWh (divisor_c1) (divisor_b1)
noncomputable def divisor_s2 : SM := sRet (eV 0)
noncomputable def D_divisor : SM := sSeq (divisor_s1) (divisor_s2)
theorem sc_divisor : FnScope ["x", "y"] ["x", "y"] (defScope s_divisor) := ⟨rfl, rfl, rfl, by decide +kernel, rfl, by decide +kernel, by decide +kernel⟩
theorem b_divisor (T : Top K mg) (cdv : Value) (A : Around) (outer : List Env) (s : Shared) (H : Hp) (E : XK) (f : Addr) (c : Cd (cxOf (L2.CX P w) P w K mg base ["x", "y"] "divisor" (defScope s_divisor) f cdv A outer s H E) (fun cls d _ H => E cls d H)) (hr : Room 0 (A.deeper (envOfC "divisor" (defScope s_divisor) s.heap.objs.size f cdv))) :
    ISs (cxOf (L2.CX P w) P w K mg base ["x", "y"] "divisor" (defScope s_divisor) f cdv A outer s H E) (fun cls d _ H => E cls d H) (defBody s_divisor) D_divisor :=
    (is_cons (is_wh c.po (it_cmp (o_ne (hu64 hr)) (i_v 1) i_int rfl) (is_one (is_par 0 1 c.calm c.nd (ia_cons (i_v 1) (ia_cons (i_op o_mod (i_ty o_int T.z_int PyProof.Rows.boot_int (ia_cons (i_v 0) ia_nil)) (i_v 1)) ia_nil)))))
    (is_one (is_ret (i_v 0))))
noncomputable def F_divisor : FM := fnD 2 D_divisor
theorem d_divisor (T : Top K mg) : Dfn P w K mg base "divisor" 1 ["x", "y"] F_divisor := by
  obtain ⟨f, fd, hm, hF, hb⟩ := T.f_divisor
  exact dfn_mk (N := ["x", "y"]) hF hm sc_divisor hb fun cdv A outer s H E c hr => b_divisor T cdv A outer s H E f c hr
noncomputable def made_s1 : SM := sAsg (eF 2 F_divisor (aCons (eCall gAbs (aCons (eV 0) (aNil))) (aCons (eCall gAbs (aCons (eV 1) (aNil))) (aNil)))) (gN 2)
noncomputable def made_s2 : SM := sIf (tB (eBin gLt (eV 1) (eC (.int 0)))) (sAsg (eUn gNeg (eV 2)) (gN 2)) (sNx)
noncomputable def made_s3 : SM := sRet (eTup (aCons (eBin gFdiv (eV 0) (eV 2)) (aCons (eBin gFdiv (eV 1) (eV 2)) (aNil))))
noncomputable def D_made : SM := sSeq (made_s1) (sSeq (made_s2) (made_s3))
theorem sc_made : FnScope ["top", "bottom", "by"] ["top", "bottom"] (defScope s_made) := ⟨rfl, rfl, rfl, by decide +kernel, rfl, by decide +kernel, by decide +kernel⟩
theorem b_made (T : Top K mg) (cdv : Value) (A : Around) (outer : List Env) (s : Shared) (H : Hp) (E : XK) (f : Addr) (c : Cd (cxOf (L2.CX P w) P w K mg base ["top", "bottom", "by"] "made" (defScope s_made) f cdv A outer s H E) (fun cls d _ H => E cls d H)) (hr : Room 1 (A.deeper (envOfC "made" (defScope s_made) s.heap.objs.size f cdv))) :
    ISs (cxOf (L2.CX P w) P w K mg base ["top", "bottom", "by"] "made" (defScope s_made) f cdv A outer s H E) (fun cls d _ H => E cls d H) (defBody s_made) D_made :=
    (is_cons (is_set 2 c.nd (i_call c (d_divisor T) hr (ia_cons (i_bi o_abs T.z_abs PyProof.Rows.boot_abs (ia_cons (i_v 0) ia_nil)) (ia_cons (i_bi o_abs T.z_abs PyProof.Rows.boot_abs (ia_cons (i_v 1) ia_nil)) ia_nil))))
    (is_cons (is_if (it_cmp o_lt (i_v 1) i_int rfl) (is_one (is_set 2 c.nd (i_un o_neg (i_v 2)))) is_nil)
    (is_one (is_ret (i_tup (ia_cons (i_op o_fdiv (i_v 0) (i_v 2)) (ia_cons (i_op o_fdiv (i_v 1) (i_v 2)) ia_nil)))))))
noncomputable def F_made : FM := fnD 3 D_made
theorem d_made (T : Top K mg) : Dfn P w K mg base "made" 2 ["top", "bottom"] F_made := by
  obtain ⟨f, fd, hm, hF, hb⟩ := T.f_made
  exact dfn_mk (N := ["top", "bottom", "by"]) hF hm sc_made hb fun cdv A outer s H E c hr => b_made T cdv A outer s H E f c hr
noncomputable def D_raw_plus : SM := sRet (eF 2 F_made (aCons (eBin gAdd (eBin gMul (eBin gIx (eV 0) (eC (.int 0))) (eBin gIx (eV 1) (eC (.int 1)))) (eBin gMul (eBin gIx (eV 1) (eC (.int 0))) (eBin gIx (eV 0) (eC (.int 1))))) (aCons (eBin gMul (eBin gIx (eV 0) (eC (.int 1))) (eBin gIx (eV 1) (eC (.int 1)))) (aNil))))
theorem sc_raw_plus : FnScope ["x", "y"] ["x", "y"] (defScope s_raw_plus) := ⟨rfl, rfl, rfl, by decide +kernel, rfl, by decide +kernel, by decide +kernel⟩
theorem b_raw_plus (T : Top K mg) (cdv : Value) (A : Around) (outer : List Env) (s : Shared) (H : Hp) (E : XK) (f : Addr) (c : Cd (cxOf (L2.CX P w) P w K mg base ["x", "y"] "raw_plus" (defScope s_raw_plus) f cdv A outer s H E) (fun cls d _ H => E cls d H)) (hr : Room 2 (A.deeper (envOfC "raw_plus" (defScope s_raw_plus) s.heap.objs.size f cdv))) :
    ISs (cxOf (L2.CX P w) P w K mg base ["x", "y"] "raw_plus" (defScope s_raw_plus) f cdv A outer s H E) (fun cls d _ H => E cls d H) (defBody s_raw_plus) D_raw_plus :=
    (is_one (is_ret (i_call c (d_made T) hr (ia_cons (i_op o_add (i_op o_mul (i_ix (o_ix (hu1 hr)) (i_v 0) i_int (fun _ _ => rfl)) (i_ix (o_ix (hu1 hr)) (i_v 1) i_int (fun _ _ => rfl))) (i_op o_mul (i_ix (o_ix (hu1 hr)) (i_v 1) i_int (fun _ _ => rfl)) (i_ix (o_ix (hu1 hr)) (i_v 0) i_int (fun _ _ => rfl)))) (ia_cons (i_op o_mul (i_ix (o_ix (hu1 hr)) (i_v 0) i_int (fun _ _ => rfl)) (i_ix (o_ix (hu1 hr)) (i_v 1) i_int (fun _ _ => rfl))) ia_nil)))))
noncomputable def F_raw_plus : FM := fnD 2 D_raw_plus
theorem d_raw_plus (T : Top K mg) : Dfn P w K mg base "raw_plus" 3 ["x", "y"] F_raw_plus := by
  obtain ⟨f, fd, hm, hF, hb⟩ := T.f_raw_plus
  exact dfn_mk (N := ["x", "y"]) hF hm sc_raw_plus hb fun cdv A outer s H E c hr => b_raw_plus T cdv A outer s H E f c hr
noncomputable def D_raw_times : SM := sRet (eF 2 F_made (aCons (eBin gMul (eBin gIx (eV 0) (eC (.int 0))) (eBin gIx (eV 1) (eC (.int 0)))) (aCons (eBin gMul (eBin gIx (eV 0) (eC (.int 1))) (eBin gIx (eV 1) (eC (.int 1)))) (aNil))))
theorem sc_raw_times : FnScope ["x", "y"] ["x", "y"] (defScope s_raw_times) := ⟨rfl, rfl, rfl, by decide +kernel, rfl, by decide +kernel, by decide +kernel⟩
theorem b_raw_times (T : Top K mg) (cdv : Value) (A : Around) (outer : List Env) (s : Shared) (H : Hp) (E : XK) (f : Addr) (c : Cd (cxOf (L2.CX P w) P w K mg base ["x", "y"] "raw_times" (defScope s_raw_times) f cdv A outer s H E) (fun cls d _ H => E cls d H)) (hr : Room 2 (A.deeper (envOfC "raw_times" (defScope s_raw_times) s.heap.objs.size f cdv))) :
    ISs (cxOf (L2.CX P w) P w K mg base ["x", "y"] "raw_times" (defScope s_raw_times) f cdv A outer s H E) (fun cls d _ H => E cls d H) (defBody s_raw_times) D_raw_times :=
    (is_one (is_ret (i_call c (d_made T) hr (ia_cons (i_op o_mul (i_ix (o_ix (hu1 hr)) (i_v 0) i_int (fun _ _ => rfl)) (i_ix (o_ix (hu1 hr)) (i_v 1) i_int (fun _ _ => rfl))) (ia_cons (i_op o_mul (i_ix (o_ix (hu1 hr)) (i_v 0) i_int (fun _ _ => rfl)) (i_ix (o_ix (hu1 hr)) (i_v 1) i_int (fun _ _ => rfl))) ia_nil)))))
noncomputable def F_raw_times : FM := fnD 2 D_raw_times
theorem d_raw_times (T : Top K mg) : Dfn P w K mg base "raw_times" 3 ["x", "y"] F_raw_times := by
  obtain ⟨f, fd, hm, hF, hb⟩ := T.f_raw_times
  exact dfn_mk (N := ["x", "y"]) hF hm sc_raw_times hb fun cdv A outer s H E c hr => b_raw_times T cdv A outer s H E f c hr
noncomputable def raw_weighs_s1 : SM := sPar 2 3 (aCons (eCall gDict (aCons (eV 0) (aNil))) (aCons (eC (.tup [.int 0, .int 1])) (aNil)))
noncomputable def raw_weighs_b1 : SM := sAsg (eF 2 F_raw_plus (aCons (eV 3) (aCons (eF 2 F_raw_times (aCons (eGet2 (eV 2) (eV 4) (eC (.tup [.int 0, .int 1]))) (aCons (eTup (aCons (eV 5) (aCons (eC (.int 1)) (aNil)))) (aNil)))) (aNil)))) (gN 3)
noncomputable def raw_weighs_s2 : SM := sFor (iSeq (eV 1)) (gTup ((gN 4) :: (gN 5) :: [])) (raw_weighs_b1)
noncomputable def raw_weighs_s3 : SM := sRet (eV 3)
noncomputable def D_raw_weighs : SM := sSeq (raw_weighs_s1) (sSeq (raw_weighs_s2) (raw_weighs_s3))
theorem sc_raw_weighs : FnScope ["weights", "dimension", "known", "found", "base", "n"] ["weights", "dimension"] (defScope s_raw_weighs) := ⟨rfl, rfl, rfl, by decide +kernel, rfl, by decide +kernel, by decide +kernel⟩
theorem b_raw_weighs (T : Top K mg) (cdv : Value) (A : Around) (outer : List Env) (s : Shared) (H : Hp) (E : XK) (f : Addr) (c : Cd (cxOf (L2.CX P w) P w K mg base ["weights", "dimension", "known", "found", "base", "n"] "raw_weighs" (defScope s_raw_weighs) f cdv A outer s H E) (fun cls d _ H => E cls d H)) (hr : Room 3 (A.deeper (envOfC "raw_weighs" (defScope s_raw_weighs) s.heap.objs.size f cdv))) :
    ISs (cxOf (L2.CX P w) P w K mg base ["weights", "dimension", "known", "found", "base", "n"] "raw_weighs" (defScope s_raw_weighs) f cdv A outer s H E) (fun cls d _ H => E cls d H) (defBody s_raw_weighs) D_raw_weighs :=
    (is_cons (is_par 2 3 c.calm c.nd (ia_cons (i_ty (call_dict c.calm) T.z_dict PyProof.Rows.boot_dict (ia_cons (i_v 0) ia_nil)) (ia_cons (i_gc T.g_NOUGHT) ia_nil)))
    (is_cons (is_for c (ii_seq (i_v 1)) (ig_tup c.calm (ig_cons (ig_n 4 c.nd) (ig_cons (ig_n 5 c.nd) ig_nil))) (is_one (is_set 3 c.nd (i_call c (d_raw_plus T) hr (ia_cons (i_v 3) (ia_cons (i_call c (d_raw_times T) hr (ia_cons (i_get2 (hu1 hr) (i_v 2) (i_v 4) (i_gc T.g_NOUGHT) ⟨rfl, rfl, rfl, rfl⟩) (ia_cons (i_tup (ia_cons (i_v 5) (ia_cons i_int ia_nil))) ia_nil))) ia_nil))))))
    (is_one (is_ret (i_v 3)))))
noncomputable def F_raw_weighs : FM := fnD 6 D_raw_weighs
theorem d_raw_weighs (T : Top K mg) : Dfn P w K mg base "raw_weighs" 4 ["weights", "dimension"] F_raw_weighs := by
  obtain ⟨f, fd, hm, hF, hb⟩ := T.f_raw_weighs
  exact dfn_mk (N := ["weights", "dimension", "known", "found", "base", "n"]) hF hm sc_raw_weighs hb fun cdv A outer s H E c hr => b_raw_weighs T cdv A outer s H E f c hr
noncomputable def is_fraction_s1 : SM := sIf (tOr (tNot (tV (eUn (gIsi ["tuple"]) (eV 0)))) (tOr (tB (eBin gNe (eCall gLen (aCons (eV 0) (aNil))) (eC (.int 2)))) (tOr (tNot (tV (eF 1 F_is_integer (aCons (eBin gIx (eV 0) (eC (.int 0))) (aNil))))) (tNot (tV (eF 1 F_is_integer (aCons (eBin gIx (eV 0) (eC (.int 1))) (aNil)))))))) (sRet (eC (.bl false))) (sNx)
noncomputable def is_fraction_s2 : SM := sRet (eAnd (eBin gGt (eBin gIx (eV 0) (eC (.int 1))) (eC (.int 0))) (eBin gEq (eF 2 F_divisor (aCons (eCall gAbs (aCons (eBin gIx (eV 0) (eC (.int 0))) (aNil))) (aCons (eBin gIx (eV 0) (eC (.int 1))) (aNil)))) (eC (.int 1))))
noncomputable def D_is_fraction : SM := sSeq (is_fraction_s1) (is_fraction_s2)
theorem sc_is_fraction : FnScope ["thing"] ["thing"] (defScope s_is_fraction) := ⟨rfl, rfl, rfl, by decide +kernel, rfl, by decide +kernel, by decide +kernel⟩
theorem b_is_fraction (T : Top K mg) (cdv : Value) (A : Around) (outer : List Env) (s : Shared) (H : Hp) (E : XK) (f : Addr) (c : Cd (cxOf (L2.CX P w) P w K mg base ["thing"] "is_fraction" (defScope s_is_fraction) f cdv A outer s H E) (fun cls d _ H => E cls d H)) (hr : Room 1 (A.deeper (envOfC "is_fraction" (defScope s_is_fraction) s.heap.objs.size f cdv))) :
    ISs (cxOf (L2.CX P w) P w K mg base ["thing"] "is_fraction" (defScope s_is_fraction) f cdv A outer s H E) (fun cls d _ H => E cls d H) (defBody s_is_fraction) D_is_fraction :=
    (is_cons (is_if (it_w (iw_or (it_not (it_v (i_isi "tuple" (i_v 0) (by decide) T.z_isinstance T.z_tuple (boot_all "tuple" (by decide))))) (iw_or (it_cmp (o_ne (hu64 hr)) (i_bi o_len T.z_len PySem.boot_len (ia_cons (i_v 0) ia_nil)) i_int rfl) (iw_or (it_not (it_v (i_call c (d_is_integer T) hr (ia_cons (i_ix (o_ix (hu1 hr)) (i_v 0) i_int (fun _ _ => rfl)) ia_nil)))) (iw_or1 (it_not (it_v (i_call c (d_is_integer T) hr (ia_cons (i_ix (o_ix (hu1 hr)) (i_v 0) i_int (fun _ _ => rfl)) ia_nil))))))))) (is_one (is_ret i_bl)) is_nil)
    (is_one (is_ret (i_and (i_cmp o_gt (i_ix (o_ix (hu1 hr)) (i_v 0) i_int (fun _ _ => rfl)) i_int rfl) (i_one (i_cmp (o_eq (hu64 hr)) (i_call c (d_divisor T) hr (ia_cons (i_bi o_abs T.z_abs PyProof.Rows.boot_abs (ia_cons (i_ix (o_ix (hu1 hr)) (i_v 0) i_int (fun _ _ => rfl)) ia_nil)) (ia_cons (i_ix (o_ix (hu1 hr)) (i_v 0) i_int (fun _ _ => rfl)) ia_nil))) i_int rfl))))))
noncomputable def F_is_fraction : FM := fnD 1 D_is_fraction
theorem d_is_fraction (T : Top K mg) : Dfn P w K mg base "is_fraction" 2 ["thing"] F_is_fraction := by
  obtain ⟨f, fd, hm, hF, hb⟩ := T.f_is_fraction
  exact dfn_mk (N := ["thing"]) hF hm sc_is_fraction hb fun cdv A outer s H E c hr => b_is_fraction T cdv A outer s H E f c hr
noncomputable def are_weights_e1 : EM := eAnd (eF 1 F_is_fraction (aCons (eV 2) (aNil))) (eBin gNe (eBin gIx (eV 2) (eC (.int 0))) (eC (.int 0)))
noncomputable def D_are_weights : SM := sRet (eAnd (eF 1 F_are_named_pairs (aCons (eV 0) (aNil))) (eCall gAll (aCons (eComp (iSeq (eV 0)) [1, 2] (Tg.g (.tup ((.nm 1) :: (.nm 2) :: []))) (tTrue) (are_weights_e1)) (aNil))))
theorem sc_are_weights : FnScope ["thing", "base", "x"] ["thing"] (defScope s_are_weights) := ⟨rfl, rfl, rfl, by decide +kernel, rfl, by decide +kernel, by decide +kernel⟩
theorem b_are_weights (T : Top K mg) (cdv : Value) (A : Around) (outer : List Env) (s : Shared) (H : Hp) (E : XK) (f : Addr) (c : Cd (cxOf (L2.CX P w) P w K mg base ["thing", "base", "x"] "are_weights" (defScope s_are_weights) f cdv A outer s H E) (fun cls d _ H => E cls d H)) (hr : Room 2 (A.deeper (envOfC "are_weights" (defScope s_are_weights) s.heap.objs.size f cdv))) :
    ISs (cxOf (L2.CX P w) P w K mg base ["thing", "base", "x"] "are_weights" (defScope s_are_weights) f cdv A outer s H E) (fun cls d _ H => E cls d H) (defBody s_are_weights) D_are_weights :=
    (is_one (is_ret (i_and (i_call c (d_are_named_pairs T) hr (ia_cons (i_v 0) ia_nil)) (i_one (i_bi (o_all c.calm) T.z_all PyProof.Rows.boot_all (ia_cons (i_comp [("base", 1), ("x", 2)] c (ii_seq (i_v 0)) (blkOk_by rfl) (fun s1 H1 _ _ fp1 => (gt_tup (c.blk s1 H1 _ _ fp1).calm (gts_cons (gt_n 1 (c.blk s1 H1 _ _ fp1).nd) (gts_cons (gt_n 2 (c.blk s1 H1 _ _ fp1).nd) gts_nil)))) (fun s1 H1 _ _ fp1 => its_nil) (fun s1 H1 _ _ fp1 => (i_and (i_call (c.blk s1 H1 _ _ fp1) (d_is_fraction T) hr (ia_cons (i_v 2) ia_nil)) (i_one (i_cmp (o_ne (hu64 hr)) (i_ix (o_ix (hu1 hr)) (i_v 2) i_int (fun _ _ => rfl)) i_int rfl)))) (by decide)) ia_nil))))))
noncomputable def F_are_weights : FM := fnD 3 D_are_weights
theorem d_are_weights (T : Top K mg) : Dfn P w K mg base "are_weights" 3 ["thing"] F_are_weights := by
  obtain ⟨f, fd, hm, hF, hb⟩ := T.f_are_weights
  exact dfn_mk (N := ["thing", "base", "x"]) hF hm sc_are_weights hb fun cdv A outer s H E c hr => b_are_weights T cdv A outer s H E f c hr
noncomputable def weighs_s1 : SM := sIf (tNot (tV (eF 1 F_are_weights (aCons (eV 0) (aNil))))) (sRaise "NoWeights") (sNx)
noncomputable def weighs_s2 : SM := sExpr (eF 1 F_check_dimension (aCons (eV 1) (aNil)))
noncomputable def weighs_s3 : SM := sRet (eF 2 F_raw_weighs (aCons (eV 0) (aCons (eV 1) (aNil))))
noncomputable def D_weighs : SM := sSeq (weighs_s1) (sSeq (weighs_s2) (weighs_s3))
theorem sc_weighs : FnScope ["weights", "dimension"] ["weights", "dimension"] (defScope s_weighs) := ⟨rfl, rfl, rfl, by decide +kernel, rfl, by decide +kernel, by decide +kernel⟩
theorem b_weighs (T : Top K mg) (cdv : Value) (A : Around) (outer : List Env) (s : Shared) (H : Hp) (E : XK) (f : Addr) (c : Cd (cxOf (L2.CX P w) P w K mg base ["weights", "dimension"] "weighs" (defScope s_weighs) f cdv A outer s H E) (fun cls d _ H => E cls d H)) (hr : Room 4 (A.deeper (envOfC "weighs" (defScope s_weighs) s.heap.objs.size f cdv))) :
    ISs (cxOf (L2.CX P w) P w K mg base ["weights", "dimension"] "weighs" (defScope s_weighs) f cdv A outer s H E) (fun cls d _ H => E cls d H) (defBody s_weighs) D_weighs :=
    (is_cons (is_if (it_not (it_v (i_call c (d_are_weights T) hr (ia_cons (i_v 0) ia_nil)))) (is_one (is_raise c T.x_NoWeights)) is_nil)
    (is_cons (is_expr (i_call c (d_check_dimension T) hr (ia_cons (i_v 1) ia_nil)))
    (is_one (is_ret (i_call c (d_raw_weighs T) hr (ia_cons (i_v 0) (ia_cons (i_v 1) ia_nil)))))))
noncomputable def F_weighs : FM := fnD 2 D_weighs
theorem d_weighs (T : Top K mg) : Dfn P w K mg base "weighs" 5 ["weights", "dimension"] F_weighs := by
  obtain ⟨f, fd, hm, hF, hb⟩ := T.f_weighs
  exact dfn_mk (N := ["weights", "dimension"]) hF hm sc_weighs hb fun cdv A outer s H E c hr => b_weighs T cdv A outer s H E f c hr
noncomputable def D_check_fraction : SM := sIf (tNot (tV (eF 1 F_is_fraction (aCons (eV 0) (aNil))))) (sRaise "NoFraction") (sNx)
theorem sc_check_fraction : FnScope ["thing"] ["thing"] (defScope s_check_fraction) := ⟨rfl, rfl, rfl, by decide +kernel, rfl, by decide +kernel, by decide +kernel⟩
theorem b_check_fraction (T : Top K mg) (cdv : Value) (A : Around) (outer : List Env) (s : Shared) (H : Hp) (E : XK) (f : Addr) (c : Cd (cxOf (L2.CX P w) P w K mg base ["thing"] "check_fraction" (defScope s_check_fraction) f cdv A outer s H E) (fun cls d _ H => E cls d H)) (hr : Room 2 (A.deeper (envOfC "check_fraction" (defScope s_check_fraction) s.heap.objs.size f cdv))) :
    ISs (cxOf (L2.CX P w) P w K mg base ["thing"] "check_fraction" (defScope s_check_fraction) f cdv A outer s H E) (fun cls d _ H => E cls d H) (defBody s_check_fraction) D_check_fraction :=
    (is_one (is_if (it_not (it_v (i_call c (d_is_fraction T) hr (ia_cons (i_v 0) ia_nil)))) (is_one (is_raise c T.x_NoFraction)) is_nil))
noncomputable def F_check_fraction : FM := fnD 1 D_check_fraction
theorem d_check_fraction (T : Top K mg) : Dfn P w K mg base "check_fraction" 3 ["thing"] F_check_fraction := by
  obtain ⟨f, fd, hm, hF, hb⟩ := T.f_check_fraction
  exact dfn_mk (N := ["thing"]) hF hm sc_check_fraction hb fun cdv A outer s H E c hr => b_check_fraction T cdv A outer s H E f c hr
noncomputable def plus_s1 : SM := sExpr (eF 1 F_check_fraction (aCons (eV 0) (aNil)))
noncomputable def plus_s2 : SM := sExpr (eF 1 F_check_fraction (aCons (eV 1) (aNil)))
noncomputable def plus_s3 : SM := sRet (eF 2 F_raw_plus (aCons (eV 0) (aCons (eV 1) (aNil))))
noncomputable def D_plus : SM := sSeq (plus_s1) (sSeq (plus_s2) (plus_s3))
theorem sc_plus : FnScope ["x", "y"] ["x", "y"] (defScope s_plus) := ⟨rfl, rfl, rfl, by decide +kernel, rfl, by decide +kernel, by decide +kernel⟩
theorem b_plus (T : Top K mg) (cdv : Value) (A : Around) (outer : List Env) (s : Shared) (H : Hp) (E : XK) (f : Addr) (c : Cd (cxOf (L2.CX P w) P w K mg base ["x", "y"] "plus" (defScope s_plus) f cdv A outer s H E) (fun cls d _ H => E cls d H)) (hr : Room 3 (A.deeper (envOfC "plus" (defScope s_plus) s.heap.objs.size f cdv))) :
    ISs (cxOf (L2.CX P w) P w K mg base ["x", "y"] "plus" (defScope s_plus) f cdv A outer s H E) (fun cls d _ H => E cls d H) (defBody s_plus) D_plus :=
    (is_cons (is_expr (i_call c (d_check_fraction T) hr (ia_cons (i_v 0) ia_nil)))
    (is_cons (is_expr (i_call c (d_check_fraction T) hr (ia_cons (i_v 1) ia_nil)))
    (is_one (is_ret (i_call c (d_raw_plus T) hr (ia_cons (i_v 0) (ia_cons (i_v 1) ia_nil)))))))
noncomputable def F_plus : FM := fnD 2 D_plus
theorem d_plus (T : Top K mg) : Dfn P w K mg base "plus" 4 ["x", "y"] F_plus := by
  obtain ⟨f, fd, hm, hF, hb⟩ := T.f_plus
  exact dfn_mk (N := ["x", "y"]) hF hm sc_plus hb fun cdv A outer s H E c hr => b_plus T cdv A outer s H E f c hr
noncomputable def D_raw_less : SM := sRet (eF 2 F_made (aCons (eBin gSub (eBin gMul (eBin gIx (eV 0) (eC (.int 0))) (eBin gIx (eV 1) (eC (.int 1)))) (eBin gMul (eBin gIx (eV 1) (eC (.int 0))) (eBin gIx (eV 0) (eC (.int 1))))) (aCons (eBin gMul (eBin gIx (eV 0) (eC (.int 1))) (eBin gIx (eV 1) (eC (.int 1)))) (aNil))))
theorem sc_raw_less : FnScope ["x", "y"] ["x", "y"] (defScope s_raw_less) := ⟨rfl, rfl, rfl, by decide +kernel, rfl, by decide +kernel, by decide +kernel⟩
theorem b_raw_less (T : Top K mg) (cdv : Value) (A : Around) (outer : List Env) (s : Shared) (H : Hp) (E : XK) (f : Addr) (c : Cd (cxOf (L2.CX P w) P w K mg base ["x", "y"] "raw_less" (defScope s_raw_less) f cdv A outer s H E) (fun cls d _ H => E cls d H)) (hr : Room 2 (A.deeper (envOfC "raw_less" (defScope s_raw_less) s.heap.objs.size f cdv))) :
    ISs (cxOf (L2.CX P w) P w K mg base ["x", "y"] "raw_less" (defScope s_raw_less) f cdv A outer s H E) (fun cls d _ H => E cls d H) (defBody s_raw_less) D_raw_less :=
    (is_one (is_ret (i_call c (d_made T) hr (ia_cons (i_op o_sub (i_op o_mul (i_ix (o_ix (hu1 hr)) (i_v 0) i_int (fun _ _ => rfl)) (i_ix (o_ix (hu1 hr)) (i_v 1) i_int (fun _ _ => rfl))) (i_op o_mul (i_ix (o_ix (hu1 hr)) (i_v 1) i_int (fun _ _ => rfl)) (i_ix (o_ix (hu1 hr)) (i_v 0) i_int (fun _ _ => rfl)))) (ia_cons (i_op o_mul (i_ix (o_ix (hu1 hr)) (i_v 0) i_int (fun _ _ => rfl)) (i_ix (o_ix (hu1 hr)) (i_v 1) i_int (fun _ _ => rfl))) ia_nil)))))
noncomputable def F_raw_less : FM := fnD 2 D_raw_less
theorem d_raw_less (T : Top K mg) : Dfn P w K mg base "raw_less" 3 ["x", "y"] F_raw_less := by
  obtain ⟨f, fd, hm, hF, hb⟩ := T.f_raw_less
  exact dfn_mk (N := ["x", "y"]) hF hm sc_raw_less hb fun cdv A outer s H E c hr => b_raw_less T cdv A outer s H E f c hr
noncomputable def less_s1 : SM := sExpr (eF 1 F_check_fraction (aCons (eV 0) (aNil)))
noncomputable def less_s2 : SM := sExpr (eF 1 F_check_fraction (aCons (eV 1) (aNil)))
noncomputable def less_s3 : SM := sRet (eF 2 F_raw_less (aCons (eV 0) (aCons (eV 1) (aNil))))
noncomputable def D_less : SM := sSeq (less_s1) (sSeq (less_s2) (less_s3))
theorem sc_less : FnScope ["x", "y"] ["x", "y"] (defScope s_less) := ⟨rfl, rfl, rfl, by decide +kernel, rfl, by decide +kernel, by decide +kernel⟩
theorem b_less (T : Top K mg) (cdv : Value) (A : Around) (outer : List Env) (s : Shared) (H : Hp) (E : XK) (f : Addr) (c : Cd (cxOf (L2.CX P w) P w K mg base ["x", "y"] "less" (defScope s_less) f cdv A outer s H E) (fun cls d _ H => E cls d H)) (hr : Room 3 (A.deeper (envOfC "less" (defScope s_less) s.heap.objs.size f cdv))) :
    ISs (cxOf (L2.CX P w) P w K mg base ["x", "y"] "less" (defScope s_less) f cdv A outer s H E) (fun cls d _ H => E cls d H) (defBody s_less) D_less :=
    (is_cons (is_expr (i_call c (d_check_fraction T) hr (ia_cons (i_v 0) ia_nil)))
    (is_cons (is_expr (i_call c (d_check_fraction T) hr (ia_cons (i_v 1) ia_nil)))
    (is_one (is_ret (i_call c (d_raw_less T) hr (ia_cons (i_v 0) (ia_cons (i_v 1) ia_nil)))))))
noncomputable def F_less : FM := fnD 2 D_less
theorem d_less (T : Top K mg) : Dfn P w K mg base "less" 4 ["x", "y"] F_less := by
  obtain ⟨f, fd, hm, hF, hb⟩ := T.f_less
  exact dfn_mk (N := ["x", "y"]) hF hm sc_less hb fun cdv A outer s H E c hr => b_less T cdv A outer s H E f c hr
noncomputable def times_s1 : SM := sExpr (eF 1 F_check_fraction (aCons (eV 0) (aNil)))
noncomputable def times_s2 : SM := sExpr (eF 1 F_check_fraction (aCons (eV 1) (aNil)))
noncomputable def times_s3 : SM := sRet (eF 2 F_raw_times (aCons (eV 0) (aCons (eV 1) (aNil))))
noncomputable def D_times : SM := sSeq (times_s1) (sSeq (times_s2) (times_s3))
theorem sc_times : FnScope ["x", "y"] ["x", "y"] (defScope s_times) := ⟨rfl, rfl, rfl, by decide +kernel, rfl, by decide +kernel, by decide +kernel⟩
theorem b_times (T : Top K mg) (cdv : Value) (A : Around) (outer : List Env) (s : Shared) (H : Hp) (E : XK) (f : Addr) (c : Cd (cxOf (L2.CX P w) P w K mg base ["x", "y"] "times" (defScope s_times) f cdv A outer s H E) (fun cls d _ H => E cls d H)) (hr : Room 3 (A.deeper (envOfC "times" (defScope s_times) s.heap.objs.size f cdv))) :
    ISs (cxOf (L2.CX P w) P w K mg base ["x", "y"] "times" (defScope s_times) f cdv A outer s H E) (fun cls d _ H => E cls d H) (defBody s_times) D_times :=
    (is_cons (is_expr (i_call c (d_check_fraction T) hr (ia_cons (i_v 0) ia_nil)))
    (is_cons (is_expr (i_call c (d_check_fraction T) hr (ia_cons (i_v 1) ia_nil)))
    (is_one (is_ret (i_call c (d_raw_times T) hr (ia_cons (i_v 0) (ia_cons (i_v 1) ia_nil)))))))
noncomputable def F_times : FM := fnD 2 D_times
theorem d_times (T : Top K mg) : Dfn P w K mg base "times" 4 ["x", "y"] F_times := by
  obtain ⟨f, fd, hm, hF, hb⟩ := T.f_times
  exact dfn_mk (N := ["x", "y"]) hF hm sc_times hb fun cdv A outer s H E c hr => b_times T cdv A outer s H E f c hr
noncomputable def law_is_s5 (G : FM) : SM := sIf (tB (eBin gNe (eUn (gIsi ["tuple"]) (eV 0)) (eUn (gIsi ["tuple"]) (eV 1)))) (sRet (eC (.bl false))) (sNx)
noncomputable def law_is_s6 (G : FM) : SM := sIf (tOr (tB (eBin gNe (eUn (gIsi ["list"]) (eV 0)) (eUn (gIsi ["list"]) (eV 1)))) (tB (eBin gNe (eCall gLen (aCons (eV 0) (aNil))) (eCall gLen (aCons (eV 1) (aNil)))))) (sRet (eC (.bl false))) (sNx)
noncomputable def law_is_e1 (G : FM) : EM := eF 2 G (aCons (eV 2) (aCons (eV 3) (aNil)))
noncomputable def law_is_s7 (G : FM) : SM := sRet (eCall gAll (aCons (eComp (iZip (aCons (eV 0) (aCons (eV 1) (aNil)))) [2, 3] (Tg.g (.tup ((.nm 2) :: (.nm 3) :: []))) (tTrue) (law_is_e1 G)) (aNil)))
noncomputable def law_is_s1 (G : FM) : SM := sIf (tV (eUn (gIsi ["tuple", "list"]) (eV 1))) (sSeq (law_is_s5 G) (sSeq (law_is_s6 G) (law_is_s7 G))) (sNx)
noncomputable def law_is_s2 (G : FM) : SM := sIf (tOr (tB (eBin gIs (eV 1) (eC .non))) (tB (eBin gIs (eV 0) (eC .non)))) (sRet (eAnd (eBin gIs (eV 1) (eC .non)) (eBin gIs (eV 0) (eC .non)))) (sNx)
noncomputable def law_is_s3 (G : FM) : SM := sIf (tB (eBin gNe (eUn (gIsi ["bool"]) (eV 0)) (eUn (gIsi ["bool"]) (eV 1)))) (sRet (eC (.bl false))) (sNx)
noncomputable def law_is_s4 (G : FM) : SM := sRet (eAnd (eBin gEq (eUn (gIsi ["str"]) (eV 0)) (eUn (gIsi ["str"]) (eV 1))) (eBin gEq (eV 0) (eV 1)))
noncomputable def D_law_is (G : FM) : SM := sSeq (law_is_s1 G) (sSeq (law_is_s2 G) (sSeq (law_is_s3 G) (law_is_s4 G)))
theorem sc_law_is : FnScope ["got", "due", "one", "other"] ["got", "due"] (defScope s_law_is) := ⟨rfl, rfl, rfl, by decide +kernel, rfl, by decide +kernel, by decide +kernel⟩
theorem b_law_is (T : Top K mg) {kk : Nat} (hk : 0 ≤ kk) {G : FM} (DG : Dfn P w K mg base "_law_is" kk ["got", "due"] G) (cdv : Value) (A : Around) (outer : List Env) (s : Shared) (H : Hp) (E : XK) (f : Addr) (c : Cd (cxOf (L2.CX P w) P w K mg base ["got", "due", "one", "other"] "_law_is" (defScope s_law_is) f cdv A outer s H E) (fun cls d _ H => E cls d H)) (hr : Room kk (A.deeper (envOfC "_law_is" (defScope s_law_is) s.heap.objs.size f cdv))) :
    ISs (cxOf (L2.CX P w) P w K mg base ["got", "due", "one", "other"] "_law_is" (defScope s_law_is) f cdv A outer s H E) (fun cls d _ H => E cls d H) (defBody s_law_is) (D_law_is G) :=
    (is_cons (is_if (it_v (i_isi2 "tuple" "list" (i_v 1) (by decide) (by decide) T.z_isinstance T.z_tuple T.z_list (boot_all "tuple" (by decide)) (boot_all "list" (by decide)))) (is_cons (is_if (it_cmp (o_ne (hu64 hr)) (i_isi "tuple" (i_v 0) (by decide) T.z_isinstance T.z_tuple (boot_all "tuple" (by decide))) (i_isi "tuple" (i_v 1) (by decide) T.z_isinstance T.z_tuple (boot_all "tuple" (by decide))) rfl) (is_one (is_ret i_bl)) is_nil)
    (is_cons (is_if (it_w (iw_or (it_cmp (o_ne (hu64 hr)) (i_isi "list" (i_v 0) (by decide) T.z_isinstance T.z_list (boot_all "list" (by decide))) (i_isi "list" (i_v 1) (by decide) T.z_isinstance T.z_list (boot_all "list" (by decide))) rfl) (iw_or1 (it_cmp (o_ne (hu64 hr)) (i_bi o_len T.z_len PySem.boot_len (ia_cons (i_v 0) ia_nil)) (i_bi o_len T.z_len PySem.boot_len (ia_cons (i_v 1) ia_nil)) rfl)))) (is_one (is_ret i_bl)) is_nil)
    (is_one (is_ret (i_bi (o_all c.calm) T.z_all PyProof.Rows.boot_all (ia_cons (i_comp [("one", 2), ("other", 3)] c (ii_zip (ia_cons (i_v 0) (ia_cons (i_v 1) ia_nil)) T.z_zip) (blkOk_by rfl) (fun s1 H1 _ _ fp1 => (gt_tup (c.blk s1 H1 _ _ fp1).calm (gts_cons (gt_n 2 (c.blk s1 H1 _ _ fp1).nd) (gts_cons (gt_n 3 (c.blk s1 H1 _ _ fp1).nd) gts_nil)))) (fun s1 H1 _ _ fp1 => its_nil) (fun s1 H1 _ _ fp1 => (i_call (c.blk s1 H1 _ _ fp1) DG hr (ia_cons (i_v 2) (ia_cons (i_v 3) ia_nil)) (hk := Nat.le_refl _))) (by decide)) ia_nil)))))) is_nil)
    (is_cons (is_if (it_w (iw_or (it_cmp o_is (i_v 1) i_non rfl) (iw_or1 (it_cmp o_is (i_v 0) i_non rfl)))) (is_one (is_ret (i_and (i_cmp o_is (i_v 1) i_non rfl) (i_one (i_cmp o_is (i_v 0) i_non rfl))))) is_nil)
    (is_cons (is_if (it_cmp (o_ne (hu64 hr)) (i_isi "bool" (i_v 0) (by decide) T.z_isinstance T.z_bool (boot_all "bool" (by decide))) (i_isi "bool" (i_v 1) (by decide) T.z_isinstance T.z_bool (boot_all "bool" (by decide))) rfl) (is_one (is_ret i_bl)) is_nil)
    (is_one (is_ret (i_and (i_cmp (o_eq (hu64 hr)) (i_isi "str" (i_v 0) (by decide) T.z_isinstance T.z_str (boot_all "str" (by decide))) (i_isi "str" (i_v 1) (by decide) T.z_isinstance T.z_str (boot_all "str" (by decide))) rfl) (i_one (i_cmp (o_eq (hu64 hr)) (i_v 0) (i_v 1) rfl))))))))
noncomputable def F_law_is : Nat → FM
  | 0 => fun _ _ => none
  | j + 1 => fnD 4 (D_law_is (F_law_is j))
theorem d_law_is (T : Top K mg) : ∀ j : Nat, Dfn P w K mg base "_law_is" (1 + j) ["got", "due"] (F_law_is j)
  | 0 => by
    obtain ⟨f, fd, hm, hF, hb⟩ := T.f_law_is
    exact dfn_none hF hm sc_law_is hb
  | j + 1 => by
    obtain ⟨f, fd, hm, hF, hb⟩ := T.f_law_is
    exact dfn_mk (N := ["got", "due", "one", "other"]) hF hm sc_law_is hb fun cdv A outer s H E c hr => b_law_is T (Nat.le_trans (by decide : 0 ≤ 1) (Nat.le_add_right _ _)) (d_law_is T j) cdv A outer s H E f c hr
noncomputable def raw_together_s1 : SM := sAsg (eCall gDict (aCons (eV 0) (aNil))) (gN 3)
noncomputable def raw_together_b1 : SM := sAsg (eBin gAdd (eGet2 (eV 3) (eV 4) (eC (.int 0))) (eBin gMul (eV 2) (eV 5))) (gSt (eV 3) (eV 4))
noncomputable def raw_together_s2 : SM := sFor (iSeq (eV 1)) (gTup ((gN 4) :: (gN 5) :: [])) (raw_together_b1)
noncomputable def raw_together_e1 : EM := eTup (aCons (eV 4) (aCons (eBin gIx (eV 3) (eV 4)) (aNil)))
noncomputable def raw_together_t1 : TM := tB (eBin gNe (eBin gIx (eV 3) (eV 4)) (eC (.int 0)))
noncomputable def raw_together_s3 : SM := sRet (eCall gTuple (aCons (eComp (iSeq (eCall gSorted (aCons (eV 3) (aNil)))) [4] (Tg.g (.nm 4)) (raw_together_t1) (raw_together_e1)) (aNil)))
noncomputable def D_raw_together : SM := sSeq (raw_together_s1) (sSeq (raw_together_s2) (raw_together_s3))
theorem sc_raw_together : FnScope ["one", "other", "sign", "found", "base", "n"] ["one", "other", "sign"] (defScope s_raw_together) := ⟨rfl, rfl, rfl, by decide +kernel, rfl, by decide +kernel, by decide +kernel⟩
theorem b_raw_together (T : Top K mg) (cdv : Value) (A : Around) (outer : List Env) (s : Shared) (H : Hp) (E : XK) (f : Addr) (c : Cd (cxOf (L2.CX P w) P w K mg base ["one", "other", "sign", "found", "base", "n"] "raw_together" (defScope s_raw_together) f cdv A outer s H E) (fun cls d _ H => E cls d H)) (hr : Room 0 (A.deeper (envOfC "raw_together" (defScope s_raw_together) s.heap.objs.size f cdv))) :
    ISs (cxOf (L2.CX P w) P w K mg base ["one", "other", "sign", "found", "base", "n"] "raw_together" (defScope s_raw_together) f cdv A outer s H E) (fun cls d _ H => E cls d H) (defBody s_raw_together) D_raw_together :=
    (is_cons (is_set 3 c.nd (i_ty (call_dict c.calm) T.z_dict PyProof.Rows.boot_dict (ia_cons (i_v 0) ia_nil)))
    (is_cons (is_for c (ii_seq (i_v 1)) (ig_tup c.calm (ig_cons (ig_n 4 c.nd) (ig_cons (ig_n 5 c.nd) ig_nil))) (is_one (is_asg (i_op o_add (i_get2 (hu1 hr) (i_v 3) (i_v 4) i_int ⟨rfl, rfl, rfl, rfl⟩) (i_op o_mul (i_v 2) (i_v 5))) (ig_st (W := W0) (hu1 hr) (i_v 3) (i_v 4)))))
    (is_one (is_ret (i_ty o_tuple T.z_tuple PyProof.Rows.boot_tuple (ia_cons (i_comp [("base", 4)] c (ii_seq (i_bi (o_sorted c.calm) T.z_sorted PyProof.Rows.boot_sorted (ia_cons (i_v 3) ia_nil))) (blkOk_by rfl) (fun s1 H1 _ _ fp1 => (gt_n 4 (c.blk s1 H1 _ _ fp1).nd)) (fun s1 H1 _ _ fp1 => (its_one (it_cmp (o_ne (hu64 hr)) (i_ix (o_ix (hu1 hr)) (i_v 3) (i_v 4) (fun _ _ => rfl)) i_int rfl))) (fun s1 H1 _ _ fp1 => (i_tup (ia_cons (i_v 4) (ia_cons (i_ix (o_ix (hu1 hr)) (i_v 3) (i_v 4) (fun _ _ => rfl)) ia_nil)))) (by decide)) ia_nil))))))
noncomputable def F_raw_together : FM := fnD 6 D_raw_together
theorem d_raw_together (T : Top K mg) : Dfn P w K mg base "raw_together" 1 ["one", "other", "sign"] F_raw_together := by
  obtain ⟨f, fd, hm, hF, hb⟩ := T.f_raw_together
  exact dfn_mk (N := ["one", "other", "sign", "found", "base", "n"]) hF hm sc_raw_together hb fun cdv A outer s H E c hr => b_raw_together T cdv A outer s H E f c hr
noncomputable def together_s1 : SM := sExpr (eF 1 F_check_dimension (aCons (eV 0) (aNil)))
noncomputable def together_s2 : SM := sExpr (eF 1 F_check_dimension (aCons (eV 1) (aNil)))
noncomputable def together_s3 : SM := sRet (eF 3 F_raw_together (aCons (eV 0) (aCons (eV 1) (aCons (eC (.int 1)) (aNil)))))
noncomputable def D_together : SM := sSeq (together_s1) (sSeq (together_s2) (together_s3))
theorem sc_together : FnScope ["one", "other"] ["one", "other"] (defScope s_together) := ⟨rfl, rfl, rfl, by decide +kernel, rfl, by decide +kernel, by decide +kernel⟩
theorem b_together (T : Top K mg) (cdv : Value) (A : Around) (outer : List Env) (s : Shared) (H : Hp) (E : XK) (f : Addr) (c : Cd (cxOf (L2.CX P w) P w K mg base ["one", "other"] "together" (defScope s_together) f cdv A outer s H E) (fun cls d _ H => E cls d H)) (hr : Room 4 (A.deeper (envOfC "together" (defScope s_together) s.heap.objs.size f cdv))) :
    ISs (cxOf (L2.CX P w) P w K mg base ["one", "other"] "together" (defScope s_together) f cdv A outer s H E) (fun cls d _ H => E cls d H) (defBody s_together) D_together :=
    (is_cons (is_expr (i_call c (d_check_dimension T) hr (ia_cons (i_v 0) ia_nil)))
    (is_cons (is_expr (i_call c (d_check_dimension T) hr (ia_cons (i_v 1) ia_nil)))
    (is_one (is_ret (i_call c (d_raw_together T) hr (ia_cons (i_v 0) (ia_cons (i_v 1) (ia_cons i_int ia_nil))))))))
noncomputable def F_together : FM := fnD 2 D_together
theorem d_together (T : Top K mg) : Dfn P w K mg base "together" 5 ["one", "other"] F_together := by
  obtain ⟨f, fd, hm, hF, hb⟩ := T.f_together
  exact dfn_mk (N := ["one", "other"]) hF hm sc_together hb fun cdv A outer s H E c hr => b_together T cdv A outer s H E f c hr
noncomputable def apart_s1 : SM := sExpr (eF 1 F_check_dimension (aCons (eV 0) (aNil)))
noncomputable def apart_s2 : SM := sExpr (eF 1 F_check_dimension (aCons (eV 1) (aNil)))
noncomputable def apart_s3 : SM := sRet (eF 3 F_raw_together (aCons (eV 0) (aCons (eV 1) (aCons (eUn gNeg (eC (.int 1))) (aNil)))))
noncomputable def D_apart : SM := sSeq (apart_s1) (sSeq (apart_s2) (apart_s3))
theorem sc_apart : FnScope ["one", "other"] ["one", "other"] (defScope s_apart) := ⟨rfl, rfl, rfl, by decide +kernel, rfl, by decide +kernel, by decide +kernel⟩
theorem b_apart (T : Top K mg) (cdv : Value) (A : Around) (outer : List Env) (s : Shared) (H : Hp) (E : XK) (f : Addr) (c : Cd (cxOf (L2.CX P w) P w K mg base ["one", "other"] "apart" (defScope s_apart) f cdv A outer s H E) (fun cls d _ H => E cls d H)) (hr : Room 4 (A.deeper (envOfC "apart" (defScope s_apart) s.heap.objs.size f cdv))) :
    ISs (cxOf (L2.CX P w) P w K mg base ["one", "other"] "apart" (defScope s_apart) f cdv A outer s H E) (fun cls d _ H => E cls d H) (defBody s_apart) D_apart :=
    (is_cons (is_expr (i_call c (d_check_dimension T) hr (ia_cons (i_v 0) ia_nil)))
    (is_cons (is_expr (i_call c (d_check_dimension T) hr (ia_cons (i_v 1) ia_nil)))
    (is_one (is_ret (i_call c (d_raw_together T) hr (ia_cons (i_v 0) (ia_cons (i_v 1) (ia_cons (i_un o_neg i_int) ia_nil))))))))
noncomputable def F_apart : FM := fnD 2 D_apart
theorem d_apart (T : Top K mg) : Dfn P w K mg base "apart" 5 ["one", "other"] F_apart := by
  obtain ⟨f, fd, hm, hF, hb⟩ := T.f_apart
  exact dfn_mk (N := ["one", "other"]) hF hm sc_apart hb fun cdv A outer s H E c hr => b_apart T cdv A outer s H E f c hr
noncomputable def raw_raised_e1 : EM := eTup (aCons (eV 2) (aCons (eBin gMul (eV 3) (eV 1)) (aNil)))
noncomputable def raw_raised_t1 : TM := tB (eBin gNe (eV 1) (eC (.int 0)))
noncomputable def D_raw_raised : SM := sRet (eCall gTuple (aCons (eComp (iSeq (eV 0)) [2, 3] (Tg.g (.tup ((.nm 2) :: (.nm 3) :: []))) (raw_raised_t1) (raw_raised_e1)) (aNil)))
theorem sc_raw_raised : FnScope ["one", "n", "base", "many"] ["one", "n"] (defScope s_raw_raised) := ⟨rfl, rfl, rfl, by decide +kernel, rfl, by decide +kernel, by decide +kernel⟩
theorem b_raw_raised (T : Top K mg) (cdv : Value) (A : Around) (outer : List Env) (s : Shared) (H : Hp) (E : XK) (f : Addr) (c : Cd (cxOf (L2.CX P w) P w K mg base ["one", "n", "base", "many"] "raw_raised" (defScope s_raw_raised) f cdv A outer s H E) (fun cls d _ H => E cls d H)) (hr : Room 0 (A.deeper (envOfC "raw_raised" (defScope s_raw_raised) s.heap.objs.size f cdv))) :
    ISs (cxOf (L2.CX P w) P w K mg base ["one", "n", "base", "many"] "raw_raised" (defScope s_raw_raised) f cdv A outer s H E) (fun cls d _ H => E cls d H) (defBody s_raw_raised) D_raw_raised :=
    (is_one (is_ret (i_ty o_tuple T.z_tuple PyProof.Rows.boot_tuple (ia_cons (i_comp [("base", 2), ("many", 3)] c (ii_seq (i_v 0)) (blkOk_by rfl) (fun s1 H1 _ _ fp1 => (gt_tup (c.blk s1 H1 _ _ fp1).calm (gts_cons (gt_n 2 (c.blk s1 H1 _ _ fp1).nd) (gts_cons (gt_n 3 (c.blk s1 H1 _ _ fp1).nd) gts_nil)))) (fun s1 H1 _ _ fp1 => (its_one (it_cmp (o_ne (hu64 hr)) (i_v 1) i_int rfl))) (fun s1 H1 _ _ fp1 => (i_tup (ia_cons (i_v 2) (ia_cons (i_op o_mul (i_v 3) (i_v 1)) ia_nil)))) (by decide)) ia_nil))))
noncomputable def F_raw_raised : FM := fnD 4 D_raw_raised
theorem d_raw_raised (T : Top K mg) : Dfn P w K mg base "raw_raised" 1 ["one", "n"] F_raw_raised := by
  obtain ⟨f, fd, hm, hF, hb⟩ := T.f_raw_raised
  exact dfn_mk (N := ["one", "n", "base", "many"]) hF hm sc_raw_raised hb fun cdv A outer s H E c hr => b_raw_raised T cdv A outer s H E f c hr
noncomputable def D_is_within : SM := sRet (eAnd (eF 1 F_is_integer (aCons (eV 0) (aNil))) (eChain gLe gLe (eV 1) (eV 0) (eV 2)))
theorem sc_is_within : FnScope ["thing", "low", "high"] ["thing", "low", "high"] (defScope s_is_within) := ⟨rfl, rfl, rfl, by decide +kernel, rfl, by decide +kernel, by decide +kernel⟩
theorem b_is_within (T : Top K mg) (cdv : Value) (A : Around) (outer : List Env) (s : Shared) (H : Hp) (E : XK) (f : Addr) (c : Cd (cxOf (L2.CX P w) P w K mg base ["thing", "low", "high"] "is_within" (defScope s_is_within) f cdv A outer s H E) (fun cls d _ H => E cls d H)) (hr : Room 1 (A.deeper (envOfC "is_within" (defScope s_is_within) s.heap.objs.size f cdv))) :
    ISs (cxOf (L2.CX P w) P w K mg base ["thing", "low", "high"] "is_within" (defScope s_is_within) f cdv A outer s H E) (fun cls d _ H => E cls d H) (defBody s_is_within) D_is_within :=
    (is_one (is_ret (i_and (i_call c (d_is_integer T) hr (ia_cons (i_v 0) ia_nil)) (i_one (i_chain o_le o_le (i_v 1) (i_v 0) (i_v 2))))))
noncomputable def F_is_within : FM := fnD 3 D_is_within
theorem d_is_within (T : Top K mg) : Dfn P w K mg base "is_within" 2 ["thing", "low", "high"] F_is_within := by
  obtain ⟨f, fd, hm, hF, hb⟩ := T.f_is_within
  exact dfn_mk (N := ["thing", "low", "high"]) hF hm sc_is_within hb fun cdv A outer s H E c hr => b_is_within T cdv A outer s H E f c hr
noncomputable def raised_s1 : SM := sExpr (eF 1 F_check_dimension (aCons (eV 0) (aNil)))
noncomputable def raised_s2 : SM := sIf (tNot (tV (eF 3 F_is_within (aCons (eV 1) (aCons (eUn gNeg (eC (.int 100))) (aCons (eC (.int 100)) (aNil))))))) (sRaise "NoNumber") (sNx)
noncomputable def raised_s3 : SM := sRet (eF 2 F_raw_raised (aCons (eV 0) (aCons (eV 1) (aNil))))
noncomputable def D_raised : SM := sSeq (raised_s1) (sSeq (raised_s2) (raised_s3))
theorem sc_raised : FnScope ["one", "n"] ["one", "n"] (defScope s_raised) := ⟨rfl, rfl, rfl, by decide +kernel, rfl, by decide +kernel, by decide +kernel⟩
theorem b_raised (T : Top K mg) (cdv : Value) (A : Around) (outer : List Env) (s : Shared) (H : Hp) (E : XK) (f : Addr) (c : Cd (cxOf (L2.CX P w) P w K mg base ["one", "n"] "raised" (defScope s_raised) f cdv A outer s H E) (fun cls d _ H => E cls d H)) (hr : Room 4 (A.deeper (envOfC "raised" (defScope s_raised) s.heap.objs.size f cdv))) :
    ISs (cxOf (L2.CX P w) P w K mg base ["one", "n"] "raised" (defScope s_raised) f cdv A outer s H E) (fun cls d _ H => E cls d H) (defBody s_raised) D_raised :=
    (is_cons (is_expr (i_call c (d_check_dimension T) hr (ia_cons (i_v 0) ia_nil)))
    (is_cons (is_if (it_not (it_v (i_call c (d_is_within T) hr (ia_cons (i_v 1) (ia_cons (i_un o_neg (i_gc T.g_MOST_POWER)) (ia_cons (i_gc T.g_MOST_POWER) ia_nil)))))) (is_one (is_raise c T.x_NoNumber)) is_nil)
    (is_one (is_ret (i_call c (d_raw_raised T) hr (ia_cons (i_v 0) (ia_cons (i_v 1) ia_nil)))))))
noncomputable def F_raised : FM := fnD 2 D_raised
theorem d_raised (T : Top K mg) : Dfn P w K mg base "raised" 5 ["one", "n"] F_raised := by
  obtain ⟨f, fd, hm, hF, hb⟩ := T.f_raised
  exact dfn_mk (N := ["one", "n"]) hF hm sc_raised hb fun cdv A outer s H E c hr => b_raised T cdv A outer s H E f c hr
noncomputable def law_refused_s1 : SM := sAsg (eC (.str "none")) (gN 2)
noncomputable def law_refused_b1 : SM := sExpr (eF 2 F_weighs (aCons (eV 0) (aCons (eV 1) (aNil))))
noncomputable def law_refused_s2 : SM := sTry ["NoDimension", "NoWeights"] (law_refused_b1) (("NoWeights", sAsg (eC (.str "weights")) (gN 2)) :: ("NoDimension", sAsg (eC (.str "size")) (gN 2)) :: [])
noncomputable def law_refused_s3 : SM := sRet (eV 2)
noncomputable def D_law_refused : SM := sSeq (law_refused_s1) (sSeq (law_refused_s2) (law_refused_s3))
theorem sc_law_refused : FnScope ["weights", "size", "told"] ["weights", "size"] (defScope s_law_refused) := ⟨rfl, rfl, rfl, by decide +kernel, rfl, by decide +kernel, by decide +kernel⟩
theorem b_law_refused (T : Top K mg) (cdv : Value) (A : Around) (outer : List Env) (s : Shared) (H : Hp) (E : XK) (f : Addr) (c : Cd (cxOf (L2.CX P w) P w K mg base ["weights", "size", "told"] "_law_refused" (defScope s_law_refused) f cdv A outer s H E) (fun cls d _ H => E cls d H)) (hr : Room 5 (A.deeper (envOfC "_law_refused" (defScope s_law_refused) s.heap.objs.size f cdv))) :
    ISs (cxOf (L2.CX P w) P w K mg base ["weights", "size", "told"] "_law_refused" (defScope s_law_refused) f cdv A outer s H E) (fun cls d _ H => E cls d H) (defBody s_law_refused) D_law_refused :=
    (is_cons (is_set 2 c.nd i_str)
    (is_cons (is_try ["NoDimension", "NoWeights"] c rfl rfl T.em_law_refused (fun _ _ _ c' => (is_one (is_expr (i_call c' (d_weighs T) hr (ia_cons (i_v 0) (ia_cons (i_v 1) ia_nil)))))) (.cons rfl (T.x_NoWeights.mgx) (by decide) (fun _ _ _ => (is_one (is_set 2 c.nd i_str))) (.cons rfl (T.x_NoDimension.mgx) (by decide) (fun _ _ _ => (is_one (is_set 2 c.nd i_str))) .nil)))
    (is_one (is_ret (i_v 2)))))
noncomputable def F_law_refused : FM := fnD 3 D_law_refused
theorem d_law_refused (T : Top K mg) : Dfn P w K mg base "_law_refused" 6 ["weights", "size"] F_law_refused := by
  obtain ⟨f, fd, hm, hF, hb⟩ := T.f_law_refused
  exact dfn_mk (N := ["weights", "size", "told"]) hF hm sc_law_refused hb fun cdv A outer s H E c hr => b_law_refused T cdv A outer s H E f c hr
noncomputable def law_weighed_s1 : SM := sAsg (eCall gDict (aCons (eV 0) (aNil))) (gN 2)
noncomputable def law_weighed_s2 : SM := sAsg (eTup (aCons (eC (.int 0)) (aCons (eC (.int 1)) (aNil)))) (gN 3)
noncomputable def law_weighed_s5 : SM := sAsg (eGet2 (eV 2) (eV 4) (eTup (aCons (eC (.int 0)) (aCons (eC (.int 1)) (aNil))))) (gN 6)
noncomputable def law_weighed_s6 : SM := sAsg (eF 2 F_law_low (aCons (eBin gAdd (eBin gMul (eBin gIx (eV 3) (eC (.int 0))) (eBin gIx (eV 6) (eC (.int 1)))) (eBin gMul (eBin gMul (eV 5) (eBin gIx (eV 6) (eC (.int 0)))) (eBin gIx (eV 3) (eC (.int 1))))) (aCons (eBin gMul (eBin gIx (eV 3) (eC (.int 1))) (eBin gIx (eV 6) (eC (.int 1)))) (aNil)))) (gN 3)
noncomputable def law_weighed_b1 : SM := sSeq (law_weighed_s5) (law_weighed_s6)
noncomputable def law_weighed_s3 : SM := sFor (iSeq (eV 1)) (gTup ((gN 4) :: (gN 5) :: [])) (law_weighed_b1)
noncomputable def law_weighed_s4 : SM := sRet (eV 3)
noncomputable def D_law_weighed : SM := sSeq (law_weighed_s1) (sSeq (law_weighed_s2) (sSeq (law_weighed_s3) (law_weighed_s4)))
theorem sc_law_weighed : FnScope ["weights", "size", "known", "found", "base", "power", "share"] ["weights", "size"] (defScope s_law_weighed) := ⟨rfl, rfl, rfl, by decide +kernel, rfl, by decide +kernel, by decide +kernel⟩
theorem b_law_weighed (T : Top K mg) (cdv : Value) (A : Around) (outer : List Env) (s : Shared) (H : Hp) (E : XK) (f : Addr) (c : Cd (cxOf (L2.CX P w) P w K mg base ["weights", "size", "known", "found", "base", "power", "share"] "_law_weighed" (defScope s_law_weighed) f cdv A outer s H E) (fun cls d _ H => E cls d H)) (hr : Room 1 (A.deeper (envOfC "_law_weighed" (defScope s_law_weighed) s.heap.objs.size f cdv))) :
    ISs (cxOf (L2.CX P w) P w K mg base ["weights", "size", "known", "found", "base", "power", "share"] "_law_weighed" (defScope s_law_weighed) f cdv A outer s H E) (fun cls d _ H => E cls d H) (defBody s_law_weighed) D_law_weighed :=
    (is_cons (is_set 2 c.nd (i_ty (call_dict c.calm) T.z_dict PyProof.Rows.boot_dict (ia_cons (i_v 0) ia_nil)))
    (is_cons (is_set 3 c.nd (i_tup (ia_cons i_int (ia_cons i_int ia_nil))))
    (is_cons (is_for c (ii_seq (i_v 1)) (ig_tup c.calm (ig_cons (ig_n 4 c.nd) (ig_cons (ig_n 5 c.nd) ig_nil))) (is_cons (is_set 6 c.nd (i_get2 (hu1 hr) (i_v 2) (i_v 4) (i_tup (ia_cons i_int (ia_cons i_int ia_nil))) ⟨rfl, rfl, rfl, rfl⟩))
    (is_one (is_set 3 c.nd (i_call c (d_law_low T) hr (ia_cons (i_op o_add (i_op o_mul (i_ix (o_ix (hu1 hr)) (i_v 3) i_int (fun _ _ => rfl)) (i_ix (o_ix (hu1 hr)) (i_v 6) i_int (fun _ _ => rfl))) (i_op o_mul (i_op o_mul (i_v 5) (i_ix (o_ix (hu1 hr)) (i_v 6) i_int (fun _ _ => rfl))) (i_ix (o_ix (hu1 hr)) (i_v 3) i_int (fun _ _ => rfl)))) (ia_cons (i_op o_mul (i_ix (o_ix (hu1 hr)) (i_v 3) i_int (fun _ _ => rfl)) (i_ix (o_ix (hu1 hr)) (i_v 6) i_int (fun _ _ => rfl))) ia_nil)))))))
    (is_one (is_ret (i_v 3))))))
noncomputable def F_law_weighed : FM := fnD 7 D_law_weighed
theorem d_law_weighed (T : Top K mg) : Dfn P w K mg base "_law_weighed" 2 ["weights", "size"] F_law_weighed := by
  obtain ⟨f, fd, hm, hF, hb⟩ := T.f_law_weighed
  exact dfn_mk (N := ["weights", "size", "known", "found", "base", "power", "share"]) hF hm sc_law_weighed hb fun cdv A outer s H E c hr => b_law_weighed T cdv A outer s H E f c hr
noncomputable def law_s1 : SM := sAsg (eF 1 F_law_hand (aCons (eV 0) (aNil))) (gN 1)
noncomputable def law_s2 : SM := sAsg (eF 2 F_law_names (aCons (eV 1) (aCons (eBin gAdd (eC (.int 1)) (eF 2 F_law_draw (aCons (eV 1) (aCons (eC (.int 6)) (aNil))))) (aNil)))) (gN 2)
noncomputable def law_s3 : SM := sAsg (eF 2 F_law_weights (aCons (eV 1) (aCons (eV 2) (aNil)))) (gN 3)
noncomputable def law_s4 : SM := sAsg (eC (.int 9)) (gN 4)
noncomputable def law_s5 : SM := sIf (tB (eBin gEq (eF 2 F_law_draw (aCons (eV 1) (aCons (eC (.int 4)) (aNil)))) (eC (.int 0)))) (sAsg (eBin gPow (eC (.int 10)) (eC (.int 58))) (gN 4)) (sNx)
noncomputable def law_s6 : SM := sAsg (eF 3 F_law_size (aCons (eV 1) (aCons (eV 2) (aCons (eV 4) (aNil))))) (gN 5)
noncomputable def law_s7 : SM := sAsg (eF 3 F_law_size (aCons (eV 1) (aCons (eV 2) (aCons (eV 4) (aNil))))) (gN 6)
noncomputable def law_s8 : SM := sAsg (eBin gSub (eF 2 F_law_draw (aCons (eV 1) (aCons (eC (.int 201)) (aNil)))) (eC (.int 100))) (gN 7)
noncomputable def law_s9 : SM := sAsg (eF 2 F_weighs (aCons (eV 3) (aCons (eV 5) (aNil)))) (gN 8)
noncomputable def law_s10 : SM := sAsg (eF 2 F_weighs (aCons (eV 3) (aCons (eV 6) (aNil)))) (gN 9)
noncomputable def law_s11 : SM := sIf (tOr (tNot (tV (eF 2 (F_law_is 4) (aCons (eV 8) (aCons (eF 2 F_law_weighed (aCons (eV 3) (aCons (eV 5) (aNil)))) (aNil)))))) (tNot (tV (eF 2 (F_law_is 4) (aCons (eV 9) (aCons (eF 2 F_law_weighed (aCons (eV 3) (aCons (eV 6) (aNil)))) (aNil))))))) (sRet (eC (.bl false))) (sNx)
noncomputable def law_s12 : SM := sIf (tB (eBin gNe (eF 2 F_weighs (aCons (eV 3) (aCons (eF 2 F_together (aCons (eV 5) (aCons (eV 6) (aNil)))) (aNil)))) (eF 2 F_plus (aCons (eV 8) (aCons (eV 9) (aNil)))))) (sRet (eC (.bl false))) (sNx)
noncomputable def law_s13 : SM := sIf (tB (eBin gNe (eF 2 F_weighs (aCons (eV 3) (aCons (eF 2 F_apart (aCons (eV 5) (aCons (eV 6) (aNil)))) (aNil)))) (eF 2 F_less (aCons (eV 8) (aCons (eV 9) (aNil)))))) (sRet (eC (.bl false))) (sNx)
noncomputable def law_s14 : SM := sIf (tB (eBin gNe (eF 2 F_weighs (aCons (eV 3) (aCons (eF 2 F_raised (aCons (eV 5) (aCons (eV 7) (aNil)))) (aNil)))) (eF 2 F_times (aCons (eV 8) (aCons (eTup (aCons (eV 7) (aCons (eC (.int 1)) (aNil)))) (aNil)))))) (sRet (eC (.bl false))) (sNx)
noncomputable def law_s15 : SM := sIf (tOr (tB (eBin gNe (eF 2 F_weighs (aCons (eV 3) (aCons (eTup (aNil)) (aNil)))) (eTup (aCons (eC (.int 0)) (aCons (eC (.int 1)) (aNil)))))) (tB (eBin gNe (eF 2 F_weighs (aCons (eTup (aNil)) (aCons (eV 5) (aNil)))) (eTup (aCons (eC (.int 0)) (aCons (eC (.int 1)) (aNil))))))) (sRet (eC (.bl false))) (sNx)
noncomputable def law_b1 : SM := sIf (tOr (tB (eBin gNe (eF 2 F_weighs (aCons (eV 3) (aCons (eTup (aCons (eTup (aCons (eV 10) (aCons (eC (.int 1)) (aNil)))) (aNil))) (aNil)))) (eV 11))) (tB (eBin gNe (eF 2 F_weighs (aCons (eV 3) (aCons (eTup (aCons (eTup (aCons (eV 10) (aCons (eBin gSub (eC (.int 0)) (eC (.int 3))) (aNil)))) (aNil))) (aNil)))) (eF 2 F_times (aCons (eV 11) (aCons (eTup (aCons (eBin gSub (eC (.int 0)) (eC (.int 3))) (aCons (eC (.int 1)) (aNil)))) (aNil))))))) (sRet (eC (.bl false))) (sNx)
noncomputable def law_s16 : SM := sFor (iSeq (eV 3)) (gTup ((gN 10) :: (gN 11) :: [])) (law_b1)
noncomputable def law_e1 : EM := eV 15
noncomputable def law_t1 : TM := tB (eBin gNotIn (eV 15) (eV 2))
noncomputable def law_s17 : SM := sAsg (eBin gIx (eComp (iSeq (eLst (aCons (eC (.str "a")) (aCons (eC (.str "b")) (aCons (eC (.str "c")) (aCons (eC (.str "d")) (aCons (eC (.str "e")) (aCons (eC (.str "f")) (aCons (eC (.str "g")) (aNil)))))))))) [15] (Tg.g (.nm 15)) (law_t1) (law_e1)) (eC (.int 0))) (gN 12)
noncomputable def law_s18 : SM := sIf (tB (eBin gNe (eF 2 F_weighs (aCons (eV 3) (aCons (eTup (aCons (eTup (aCons (eV 12) (aCons (eC (.int 7)) (aNil)))) (aNil))) (aNil)))) (eTup (aCons (eC (.int 0)) (aCons (eC (.int 1)) (aNil)))))) (sRet (eC (.bl false))) (sNx)
noncomputable def law_s19 : SM := sAsg (eLst (aCons (eTup (aCons (eTup (aCons (eC (.str "a")) (aCons (eTup (aCons (eC (.int 0)) (aCons (eC (.int 1)) (aNil)))) (aNil)))) (aNil))) (aCons (eTup (aCons (eTup (aCons (eC (.str "a")) (aCons (eTup (aCons (eC (.int 2)) (aCons (eC (.int 4)) (aNil)))) (aNil)))) (aNil))) (aCons (eTup (aCons (eTup (aCons (eC (.str "a")) (aCons (eC (.int 1)) (aNil)))) (aNil))) (aCons (eLst (aCons (eTup (aCons (eC (.str "a")) (aCons (eTup (aCons (eC (.int 1)) (aCons (eC (.int 2)) (aNil)))) (aNil)))) (aNil))) (aCons (eTup (aCons (eTup (aCons (eC (.str "b")) (aCons (eTup (aCons (eC (.int 1)) (aCons (eC (.int 2)) (aNil)))) (aNil)))) (aCons (eTup (aCons (eC (.str "a")) (aCons (eTup (aCons (eC (.int 1)) (aCons (eC (.int 2)) (aNil)))) (aNil)))) (aNil)))) (aNil))))))) (gN 13)
noncomputable def law_s20 : SM := sAsg (eBin gAdd (eV 13) (eLst (aCons (eTup (aCons (eTup (aCons (eC (.str "a")) (aCons (eTup (aCons (eC (.int 1)) (aCons (eC (.int 2)) (aNil)))) (aNil)))) (aCons (eTup (aCons (eC (.str "a")) (aCons (eTup (aCons (eC (.int 1)) (aCons (eC (.int 3)) (aNil)))) (aNil)))) (aNil)))) (aCons (eTup (aCons (eTup (aCons (eC (.str "A")) (aCons (eTup (aCons (eC (.int 1)) (aCons (eC (.int 2)) (aNil)))) (aNil)))) (aNil))) (aCons (eTup (aCons (eTup (aCons (eC (.str "a")) (aNil))) (aNil))) (aCons (eC .non) (aCons (eTup (aCons (eTup (aCons (eC (.str "a")) (aCons (eTup (aCons (eC (.int 1)) (aCons (eC (.int 0)) (aNil)))) (aNil)))) (aNil))) (aCons (eC (.str "a")) (aNil))))))))) (gN 13)
noncomputable def law_b2 : SM := sIf (tOr (tB (eBin gNe (eF 2 F_law_refused (aCons (eV 14) (aCons (eV 5) (aNil)))) (eC (.str "weights")))) (tB (eBin gNe (eF 2 F_law_refused (aCons (eV 14) (aCons (eC .non) (aNil)))) (eC (.str "weights"))))) (sRet (eC (.bl false))) (sNx)
noncomputable def law_s21 : SM := sFor (iSeq (eV 13)) (gN 14) (law_b2)
noncomputable def law_b3 : SM := sIf (tB (eBin gNe (eF 2 F_law_refused (aCons (eV 3) (aCons (eV 14) (aNil)))) (eC (.str "size")))) (sRet (eC (.bl false))) (sNx)
noncomputable def law_s22 : SM := sFor (iSeq (eLst (aCons (eTup (aCons (eTup (aCons (eC (.str "a")) (aCons (eC (.int 0)) (aNil)))) (aNil))) (aCons (eTup (aCons (eTup (aCons (eC (.str "b")) (aCons (eC (.int 1)) (aNil)))) (aCons (eTup (aCons (eC (.str "a")) (aCons (eC (.int 1)) (aNil)))) (aNil)))) (aCons (eLst (aCons (eTup (aCons (eC (.str "a")) (aCons (eC (.int 1)) (aNil)))) (aNil))) (aCons (eC .non) (aCons (eTup (aCons (eTup (aCons (eC (.str "a")) (aCons (eC (.bl true)) (aNil)))) (aNil))) (aNil)))))))) (gN 14) (law_b3)
noncomputable def law_s23 : SM := sRet (eC (.bl true))
noncomputable def D_law : SM := sSeq (law_s1) (sSeq (law_s2) (sSeq (law_s3) (sSeq (law_s4) (sSeq (law_s5) (sSeq (law_s6) (sSeq (law_s7) (sSeq (law_s8) (sSeq (law_s9) (sSeq (law_s10) (sSeq (law_s11) (sSeq (law_s12) (sSeq (law_s13) (sSeq (law_s14) (sSeq (law_s15) (sSeq (law_s16) (sSeq (law_s17) (sSeq (law_s18) (sSeq (law_s19) (sSeq (law_s20) (sSeq (law_s21) (sSeq (law_s22) (law_s23))))))))))))))))))))))
theorem sc_law : FnScope ["script", "hand", "names", "weights", "most", "one", "other", "many", "mine", "yours", "base", "share", "absent", "wrong", "thing", "name"] ["script"] (defScope s_law) := ⟨rfl, rfl, rfl, by decide +kernel, rfl, by decide +kernel, by decide +kernel⟩
theorem b_law (T : Top K mg) (cdv : Value) (A : Around) (outer : List Env) (s : Shared) (H : Hp) (E : XK) (f : Addr) (c : Cd (cxOf (L2.CX P w) P w K mg base ["script", "hand", "names", "weights", "most", "one", "other", "many", "mine", "yours", "base", "share", "absent", "wrong", "thing", "name"] "law" (defScope s_law) f cdv A outer s H E) (fun cls d _ H => E cls d H)) (hr : Room 6 (A.deeper (envOfC "law" (defScope s_law) s.heap.objs.size f cdv))) :
    ISs (cxOf (L2.CX P w) P w K mg base ["script", "hand", "names", "weights", "most", "one", "other", "many", "mine", "yours", "base", "share", "absent", "wrong", "thing", "name"] "law" (defScope s_law) f cdv A outer s H E) (fun cls d _ H => E cls d H) (defBody s_law) D_law :=
    (is_cons (is_set 1 c.nd (i_call c (d_law_hand T) hr (ia_cons (i_v 0) ia_nil)))
    (is_cons (is_set 2 c.nd (i_call c (d_law_names T) hr (ia_cons (i_v 1) (ia_cons (i_op o_add i_int (i_call c (d_law_draw T) hr (ia_cons (i_v 1) (ia_cons i_int ia_nil)))) ia_nil))))
    (is_cons (is_set 3 c.nd (i_call c (d_law_weights T) hr (ia_cons (i_v 1) (ia_cons (i_v 2) ia_nil))))
    (is_cons (is_set 4 c.nd i_int)
    (is_cons (is_if (it_cmp (o_eq (hu64 hr)) (i_call c (d_law_draw T) hr (ia_cons (i_v 1) (ia_cons i_int ia_nil))) i_int rfl) (is_one (is_set 4 c.nd (i_op o_pow i_int i_int))) is_nil)
    (is_cons (is_set 5 c.nd (i_call c (d_law_size T) hr (ia_cons (i_v 1) (ia_cons (i_v 2) (ia_cons (i_v 4) ia_nil)))))
    (is_cons (is_set 6 c.nd (i_call c (d_law_size T) hr (ia_cons (i_v 1) (ia_cons (i_v 2) (ia_cons (i_v 4) ia_nil)))))
    (is_cons (is_set 7 c.nd (i_op o_sub (i_call c (d_law_draw T) hr (ia_cons (i_v 1) (ia_cons i_int ia_nil))) i_int))
    (is_cons (is_set 8 c.nd (i_call c (d_weighs T) hr (ia_cons (i_v 3) (ia_cons (i_v 5) ia_nil))))
    (is_cons (is_set 9 c.nd (i_call c (d_weighs T) hr (ia_cons (i_v 3) (ia_cons (i_v 6) ia_nil))))
    (is_cons (is_if (it_w (iw_or (it_not (it_v (i_call c (d_law_is T 4) hr (ia_cons (i_v 8) (ia_cons (i_call c (d_law_weighed T) hr (ia_cons (i_v 3) (ia_cons (i_v 5) ia_nil))) ia_nil))))) (iw_or1 (it_not (it_v (i_call c (d_law_is T 4) hr (ia_cons (i_v 9) (ia_cons (i_call c (d_law_weighed T) hr (ia_cons (i_v 3) (ia_cons (i_v 6) ia_nil))) ia_nil)))))))) (is_one (is_ret i_bl)) is_nil)
    (is_cons (is_if (it_cmp (o_ne (hu64 hr)) (i_call c (d_weighs T) hr (ia_cons (i_v 3) (ia_cons (i_call c (d_together T) hr (ia_cons (i_v 5) (ia_cons (i_v 6) ia_nil))) ia_nil))) (i_call c (d_plus T) hr (ia_cons (i_v 8) (ia_cons (i_v 9) ia_nil))) rfl) (is_one (is_ret i_bl)) is_nil)
    (is_cons (is_if (it_cmp (o_ne (hu64 hr)) (i_call c (d_weighs T) hr (ia_cons (i_v 3) (ia_cons (i_call c (d_apart T) hr (ia_cons (i_v 5) (ia_cons (i_v 6) ia_nil))) ia_nil))) (i_call c (d_less T) hr (ia_cons (i_v 8) (ia_cons (i_v 9) ia_nil))) rfl) (is_one (is_ret i_bl)) is_nil)
    (is_cons (is_if (it_cmp (o_ne (hu64 hr)) (i_call c (d_weighs T) hr (ia_cons (i_v 3) (ia_cons (i_call c (d_raised T) hr (ia_cons (i_v 5) (ia_cons (i_v 7) ia_nil))) ia_nil))) (i_call c (d_times T) hr (ia_cons (i_v 8) (ia_cons (i_tup (ia_cons (i_v 7) (ia_cons i_int ia_nil))) ia_nil))) rfl) (is_one (is_ret i_bl)) is_nil)
    (is_cons (is_if (it_w (iw_or (it_cmp (o_ne (hu64 hr)) (i_call c (d_weighs T) hr (ia_cons (i_v 3) (ia_cons (i_tup ia_nil) ia_nil))) (i_tup (ia_cons i_int (ia_cons i_int ia_nil))) rfl) (iw_or1 (it_cmp (o_ne (hu64 hr)) (i_call c (d_weighs T) hr (ia_cons (i_tup ia_nil) (ia_cons (i_v 5) ia_nil))) (i_tup (ia_cons i_int (ia_cons i_int ia_nil))) rfl)))) (is_one (is_ret i_bl)) is_nil)
    (is_cons (is_for c (ii_seq (i_v 3)) (ig_tup c.calm (ig_cons (ig_n 10 c.nd) (ig_cons (ig_n 11 c.nd) ig_nil))) (is_one (is_if (it_w (iw_or (it_cmp (o_ne (hu64 hr)) (i_call c (d_weighs T) hr (ia_cons (i_v 3) (ia_cons (i_tup (ia_cons (i_tup (ia_cons (i_v 10) (ia_cons i_int ia_nil))) ia_nil)) ia_nil))) (i_v 11) rfl) (iw_or1 (it_cmp (o_ne (hu64 hr)) (i_call c (d_weighs T) hr (ia_cons (i_v 3) (ia_cons (i_tup (ia_cons (i_tup (ia_cons (i_v 10) (ia_cons (i_op o_sub i_int i_int) ia_nil))) ia_nil)) ia_nil))) (i_call c (d_times T) hr (ia_cons (i_v 11) (ia_cons (i_tup (ia_cons (i_op o_sub i_int i_int) (ia_cons i_int ia_nil))) ia_nil))) rfl)))) (is_one (is_ret i_bl)) is_nil)))
    (is_cons (is_set 12 c.nd (i_ix (o_ix (hu1 hr)) (i_comp [("name", 15)] c (ii_seq (i_lst (ia_cons i_str (ia_cons i_str (ia_cons i_str (ia_cons i_str (ia_cons i_str (ia_cons i_str (ia_cons i_str ia_nil))))))))) (blkOk_by rfl) (fun s1 H1 _ _ fp1 => (gt_n 15 (c.blk s1 H1 _ _ fp1).nd)) (fun s1 H1 _ _ fp1 => (its_one (it_cmp (o_notIn (hu65 hr)) (i_v 15) (i_v 2) rfl))) (fun s1 H1 _ _ fp1 => (i_v 15)) (by decide)) i_int (fun _ _ => rfl)))
    (is_cons (is_if (it_cmp (o_ne (hu64 hr)) (i_call c (d_weighs T) hr (ia_cons (i_v 3) (ia_cons (i_tup (ia_cons (i_tup (ia_cons (i_v 12) (ia_cons i_int ia_nil))) ia_nil)) ia_nil))) (i_tup (ia_cons i_int (ia_cons i_int ia_nil))) rfl) (is_one (is_ret i_bl)) is_nil)
    (is_cons (is_set 13 c.nd (i_lst (ia_cons (i_tup (ia_cons (i_tup (ia_cons i_str (ia_cons (i_tup (ia_cons i_int (ia_cons i_int ia_nil))) ia_nil))) ia_nil)) (ia_cons (i_tup (ia_cons (i_tup (ia_cons i_str (ia_cons (i_tup (ia_cons i_int (ia_cons i_int ia_nil))) ia_nil))) ia_nil)) (ia_cons (i_tup (ia_cons (i_tup (ia_cons i_str (ia_cons i_int ia_nil))) ia_nil)) (ia_cons (i_lst (ia_cons (i_tup (ia_cons i_str (ia_cons (i_tup (ia_cons i_int (ia_cons i_int ia_nil))) ia_nil))) ia_nil)) (ia_cons (i_tup (ia_cons (i_tup (ia_cons i_str (ia_cons (i_tup (ia_cons i_int (ia_cons i_int ia_nil))) ia_nil))) (ia_cons (i_tup (ia_cons i_str (ia_cons (i_tup (ia_cons i_int (ia_cons i_int ia_nil))) ia_nil))) ia_nil))) ia_nil)))))))
    (is_cons (is_set 13 c.nd (i_op o_add (i_v 13) (i_lst (ia_cons (i_tup (ia_cons (i_tup (ia_cons i_str (ia_cons (i_tup (ia_cons i_int (ia_cons i_int ia_nil))) ia_nil))) (ia_cons (i_tup (ia_cons i_str (ia_cons (i_tup (ia_cons i_int (ia_cons i_int ia_nil))) ia_nil))) ia_nil))) (ia_cons (i_tup (ia_cons (i_tup (ia_cons i_str (ia_cons (i_tup (ia_cons i_int (ia_cons i_int ia_nil))) ia_nil))) ia_nil)) (ia_cons (i_tup (ia_cons (i_tup (ia_cons i_str ia_nil)) ia_nil)) (ia_cons i_non (ia_cons (i_tup (ia_cons (i_tup (ia_cons i_str (ia_cons (i_tup (ia_cons i_int (ia_cons i_int ia_nil))) ia_nil))) ia_nil)) (ia_cons i_str ia_nil)))))))))
    (is_cons (is_for c (ii_seq (i_v 13)) (ig_n 14 c.nd) (is_one (is_if (it_w (iw_or (it_cmp (o_ne (hu64 hr)) (i_call c (d_law_refused T) hr (ia_cons (i_v 14) (ia_cons (i_v 5) ia_nil))) i_str rfl) (iw_or1 (it_cmp (o_ne (hu64 hr)) (i_call c (d_law_refused T) hr (ia_cons (i_v 14) (ia_cons i_non ia_nil))) i_str rfl)))) (is_one (is_ret i_bl)) is_nil)))
    (is_cons (is_for c (ii_seq (i_lst (ia_cons (i_tup (ia_cons (i_tup (ia_cons i_str (ia_cons i_int ia_nil))) ia_nil)) (ia_cons (i_tup (ia_cons (i_tup (ia_cons i_str (ia_cons i_int ia_nil))) (ia_cons (i_tup (ia_cons i_str (ia_cons i_int ia_nil))) ia_nil))) (ia_cons (i_lst (ia_cons (i_tup (ia_cons i_str (ia_cons i_int ia_nil))) ia_nil)) (ia_cons i_non (ia_cons (i_tup (ia_cons (i_tup (ia_cons i_str (ia_cons i_bl ia_nil))) ia_nil)) ia_nil))))))) (ig_n 14 c.nd) (is_one (is_if (it_cmp (o_ne (hu64 hr)) (i_call c (d_law_refused T) hr (ia_cons (i_v 3) (ia_cons (i_v 14) ia_nil))) i_str rfl) (is_one (is_ret i_bl)) is_nil)))
    (is_one (is_ret i_bl))))))))))))))))))))))))
noncomputable def F_law : FM := fnD 16 D_law
end
theorem all_mk {P : Program} {w : World} {K : PySem.W.Frag} {h : Heap} {mg : Str → Option Value} {fa : Addr} (X : K.In h) (G : h.Ns mainGlobals mg) (hfa : mg "law" = some (.ref fa))
    {f0 : Addr} {od0 an0 : Option Addr} {sl0 : Array (Option Value)} {oc0 kV0 dc0 pm0 cd0 ct0 : Value}
    {f1 : Addr} {od1 an1 : Option Addr} {sl1 : Array (Option Value)} {oc1 kV1 dc1 pm1 cd1 ct1 : Value}
    {f2 : Addr} {od2 an2 : Option Addr} {sl2 : Array (Option Value)} {oc2 kV2 dc2 pm2 cd2 ct2 : Value}
    {f3 : Addr} {od3 an3 : Option Addr} {sl3 : Array (Option Value)} {oc3 kV3 dc3 pm3 cd3 ct3 : Value}
    {f4 : Addr} {od4 an4 : Option Addr} {sl4 : Array (Option Value)} {oc4 kV4 dc4 pm4 cd4 ct4 : Value}
    {f5 : Addr} {od5 an5 : Option Addr} {sl5 : Array (Option Value)} {oc5 kV5 dc5 pm5 cd5 ct5 : Value}
    {f6 : Addr} {od6 an6 : Option Addr} {sl6 : Array (Option Value)} {oc6 kV6 dc6 pm6 cd6 ct6 : Value}
    {f7 : Addr} {od7 an7 : Option Addr} {sl7 : Array (Option Value)} {oc7 kV7 dc7 pm7 cd7 ct7 : Value}
    {f8 : Addr} {od8 an8 : Option Addr} {sl8 : Array (Option Value)} {oc8 kV8 dc8 pm8 cd8 ct8 : Value}
    {f9 : Addr} {od9 an9 : Option Addr} {sl9 : Array (Option Value)} {oc9 kV9 dc9 pm9 cd9 ct9 : Value}
    {f10 : Addr} {od10 an10 : Option Addr} {sl10 : Array (Option Value)} {oc10 kV10 dc10 pm10 cd10 ct10 : Value}
    {f11 : Addr} {od11 an11 : Option Addr} {sl11 : Array (Option Value)} {oc11 kV11 dc11 pm11 cd11 ct11 : Value}
    {f12 : Addr} {od12 an12 : Option Addr} {sl12 : Array (Option Value)} {oc12 kV12 dc12 pm12 cd12 ct12 : Value}
    {f13 : Addr} {od13 an13 : Option Addr} {sl13 : Array (Option Value)} {oc13 kV13 dc13 pm13 cd13 ct13 : Value}
    {f14 : Addr} {od14 an14 : Option Addr} {sl14 : Array (Option Value)} {oc14 kV14 dc14 pm14 cd14 ct14 : Value}
    {f15 : Addr} {od15 an15 : Option Addr} {sl15 : Array (Option Value)} {oc15 kV15 dc15 pm15 cd15 ct15 : Value}
    {f16 : Addr} {od16 an16 : Option Addr} {sl16 : Array (Option Value)} {oc16 kV16 dc16 pm16 cd16 ct16 : Value}
    {f17 : Addr} {od17 an17 : Option Addr} {sl17 : Array (Option Value)} {oc17 kV17 dc17 pm17 cd17 ct17 : Value}
    {f18 : Addr} {od18 an18 : Option Addr} {sl18 : Array (Option Value)} {oc18 kV18 dc18 pm18 cd18 ct18 : Value}
    {f19 : Addr} {od19 an19 : Option Addr} {sl19 : Array (Option Value)} {oc19 kV19 dc19 pm19 cd19 ct19 : Value}
    {f20 : Addr} {od20 an20 : Option Addr} {sl20 : Array (Option Value)} {oc20 kV20 dc20 pm20 cd20 ct20 : Value}
    {f21 : Addr} {od21 an21 : Option Addr} {sl21 : Array (Option Value)} {oc21 kV21 dc21 pm21 cd21 ct21 : Value}
    {f22 : Addr} {od22 an22 : Option Addr} {sl22 : Array (Option Value)} {oc22 kV22 dc22 pm22 cd22 ct22 : Value}
    {f23 : Addr} {od23 an23 : Option Addr} {sl23 : Array (Option Value)} {oc23 kV23 dc23 pm23 cd23 ct23 : Value}
    {f24 : Addr} {od24 an24 : Option Addr} {sl24 : Array (Option Value)} {oc24 kV24 dc24 pm24 cd24 ct24 : Value}
    {f25 : Addr} {od25 an25 : Option Addr} {sl25 : Array (Option Value)} {oc25 kV25 dc25 pm25 cd25 ct25 : Value}
    {f26 : Addr} {od26 an26 : Option Addr} {sl26 : Array (Option Value)} {oc26 kV26 dc26 pm26 cd26 ct26 : Value}
    {f27 : Addr} {od27 an27 : Option Addr} {sl27 : Array (Option Value)} {oc27 kV27 dc27 pm27 cd27 ct27 : Value}
    {f28 : Addr} {od28 an28 : Option Addr} {sl28 : Array (Option Value)} {oc28 kV28 dc28 pm28 cd28 ct28 : Value}
    {f29 : Addr} {od29 an29 : Option Addr} {sl29 : Array (Option Value)} {oc29 kV29 dc29 pm29 cd29 ct29 : Value}
    {f30 : Addr} {od30 an30 : Option Addr} {sl30 : Array (Option Value)} {oc30 kV30 dc30 pm30 cd30 ct30 : Value}
    {f31 : Addr} {od31 an31 : Option Addr} {sl31 : Array (Option Value)} {oc31 kV31 dc31 pm31 cd31 ct31 : Value}
    {f32 : Addr} {od32 an32 : Option Addr} {sl32 : Array (Option Value)} {oc32 kV32 dc32 pm32 cd32 ct32 : Value}
    {f33 : Addr} {od33 an33 : Option Addr} {sl33 : Array (Option Value)} {oc33 kV33 dc33 pm33 cd33 ct33 : Value}
    {gt_LETTERS0 : Tok}
    {gt_MOST_NAME0 : Tok}
    {gt_MOST_POWER0 : Tok}
    {gt_NOUGHT1 : Tok}
    {gt_NOUGHT2 : Tok}
    {ga_NOUGHT0 : Addr} {gn_NOUGHT0 : Nat} {gs_NOUGHT0 : Array (Option Value)}
    {C_NoDimension : Addr}
    {C_NoFraction : Addr}
    {C_NoNumber : Addr}
    {C_NoWeights : Addr}
    (a0 : PySem.W.nsIn K mainGlobals "_law_hand" = some (some (.ref f0)))
    (l0 : K.lookup f0 = some ⟨oc0, od0, .func (PySem.W.fnOf "_law_hand" "_law_hand" (defArgs s_law_hand) (defBody s_law_hand) (defScope s_law_hand) .none kV0 dc0 pm0 an0 cd0 ct0), sl0⟩)
    (c0 : PySem.W.codeIn K cd0 "_law_hand" = true)
    (k0 : PySem.W.keepIn K (.ref f0) = true)
    (a1 : PySem.W.nsIn K mainGlobals "_law_draw" = some (some (.ref f1)))
    (l1 : K.lookup f1 = some ⟨oc1, od1, .func (PySem.W.fnOf "_law_draw" "_law_draw" (defArgs s_law_draw) (defBody s_law_draw) (defScope s_law_draw) .none kV1 dc1 pm1 an1 cd1 ct1), sl1⟩)
    (c1 : PySem.W.codeIn K cd1 "_law_draw" = true)
    (k1 : PySem.W.keepIn K (.ref f1) = true)
    (a2 : PySem.W.nsIn K mainGlobals "_law_names" = some (some (.ref f2)))
    (l2 : K.lookup f2 = some ⟨oc2, od2, .func (PySem.W.fnOf "_law_names" "_law_names" (defArgs s_law_names) (defBody s_law_names) (defScope s_law_names) .none kV2 dc2 pm2 an2 cd2 ct2), sl2⟩)
    (c2 : PySem.W.codeIn K cd2 "_law_names" = true)
    (k2 : PySem.W.keepIn K (.ref f2) = true)
    (a3 : PySem.W.nsIn K mainGlobals "_law_low" = some (some (.ref f3)))
    (l3 : K.lookup f3 = some ⟨oc3, od3, .func (PySem.W.fnOf "_law_low" "_law_low" (defArgs s_law_low) (defBody s_law_low) (defScope s_law_low) .none kV3 dc3 pm3 an3 cd3 ct3), sl3⟩)
    (c3 : PySem.W.codeIn K cd3 "_law_low" = true)
    (k3 : PySem.W.keepIn K (.ref f3) = true)
    (a4 : PySem.W.nsIn K mainGlobals "_law_weights" = some (some (.ref f4)))
    (l4 : K.lookup f4 = some ⟨oc4, od4, .func (PySem.W.fnOf "_law_weights" "_law_weights" (defArgs s_law_weights) (defBody s_law_weights) (defScope s_law_weights) .none kV4 dc4 pm4 an4 cd4 ct4), sl4⟩)
    (c4 : PySem.W.codeIn K cd4 "_law_weights" = true)
    (k4 : PySem.W.keepIn K (.ref f4) = true)
    (a5 : PySem.W.nsIn K mainGlobals "_law_size" = some (some (.ref f5)))
    (l5 : K.lookup f5 = some ⟨oc5, od5, .func (PySem.W.fnOf "_law_size" "_law_size" (defArgs s_law_size) (defBody s_law_size) (defScope s_law_size) .none kV5 dc5 pm5 an5 cd5 ct5), sl5⟩)
    (c5 : PySem.W.codeIn K cd5 "_law_size" = true)
    (k5 : PySem.W.keepIn K (.ref f5) = true)
    (a6 : PySem.W.nsIn K mainGlobals "is_name" = some (some (.ref f6)))
    (l6 : K.lookup f6 = some ⟨oc6, od6, .func (PySem.W.fnOf "is_name" "is_name" (defArgs s_is_name) (defBody s_is_name) (defScope s_is_name) .none kV6 dc6 pm6 an6 cd6 ct6), sl6⟩)
    (c6 : PySem.W.codeIn K cd6 "is_name" = true)
    (k6 : PySem.W.keepIn K (.ref f6) = true)
    (a7 : PySem.W.nsIn K mainGlobals "are_named_pairs" = some (some (.ref f7)))
    (l7 : K.lookup f7 = some ⟨oc7, od7, .func (PySem.W.fnOf "are_named_pairs" "are_named_pairs" (defArgs s_are_named_pairs) (defBody s_are_named_pairs) (defScope s_are_named_pairs) .none kV7 dc7 pm7 an7 cd7 ct7), sl7⟩)
    (c7 : PySem.W.codeIn K cd7 "are_named_pairs" = true)
    (k7 : PySem.W.keepIn K (.ref f7) = true)
    (a8 : PySem.W.nsIn K mainGlobals "is_integer" = some (some (.ref f8)))
    (l8 : K.lookup f8 = some ⟨oc8, od8, .func (PySem.W.fnOf "is_integer" "is_integer" (defArgs s_is_integer) (defBody s_is_integer) (defScope s_is_integer) .none kV8 dc8 pm8 an8 cd8 ct8), sl8⟩)
    (c8 : PySem.W.codeIn K cd8 "is_integer" = true)
    (k8 : PySem.W.keepIn K (.ref f8) = true)
    (a9 : PySem.W.nsIn K mainGlobals "is_dimension" = some (some (.ref f9)))
    (l9 : K.lookup f9 = some ⟨oc9, od9, .func (PySem.W.fnOf "is_dimension" "is_dimension" (defArgs s_is_dimension) (defBody s_is_dimension) (defScope s_is_dimension) .none kV9 dc9 pm9 an9 cd9 ct9), sl9⟩)
    (c9 : PySem.W.codeIn K cd9 "is_dimension" = true)
    (k9 : PySem.W.keepIn K (.ref f9) = true)
    (a10 : PySem.W.nsIn K mainGlobals "check_dimension" = some (some (.ref f10)))
    (l10 : K.lookup f10 = some ⟨oc10, od10, .func (PySem.W.fnOf "check_dimension" "check_dimension" (defArgs s_check_dimension) (defBody s_check_dimension) (defScope s_check_dimension) .none kV10 dc10 pm10 an10 cd10 ct10), sl10⟩)
    (c10 : PySem.W.codeIn K cd10 "check_dimension" = true)
    (k10 : PySem.W.keepIn K (.ref f10) = true)
    (a11 : PySem.W.nsIn K mainGlobals "divisor" = some (some (.ref f11)))
    (l11 : K.lookup f11 = some ⟨oc11, od11, .func (PySem.W.fnOf "divisor" "divisor" (defArgs s_divisor) (defBody s_divisor) (defScope s_divisor) .none kV11 dc11 pm11 an11 cd11 ct11), sl11⟩)
    (c11 : PySem.W.codeIn K cd11 "divisor" = true)
    (k11 : PySem.W.keepIn K (.ref f11) = true)
    (a12 : PySem.W.nsIn K mainGlobals "made" = some (some (.ref f12)))
    (l12 : K.lookup f12 = some ⟨oc12, od12, .func (PySem.W.fnOf "made" "made" (defArgs s_made) (defBody s_made) (defScope s_made) .none kV12 dc12 pm12 an12 cd12 ct12), sl12⟩)
    (c12 : PySem.W.codeIn K cd12 "made" = true)
    (k12 : PySem.W.keepIn K (.ref f12) = true)
    (a13 : PySem.W.nsIn K mainGlobals "raw_plus" = some (some (.ref f13)))
    (l13 : K.lookup f13 = some ⟨oc13, od13, .func (PySem.W.fnOf "raw_plus" "raw_plus" (defArgs s_raw_plus) (defBody s_raw_plus) (defScope s_raw_plus) .none kV13 dc13 pm13 an13 cd13 ct13), sl13⟩)
    (c13 : PySem.W.codeIn K cd13 "raw_plus" = true)
    (k13 : PySem.W.keepIn K (.ref f13) = true)
    (a14 : PySem.W.nsIn K mainGlobals "raw_times" = some (some (.ref f14)))
    (l14 : K.lookup f14 = some ⟨oc14, od14, .func (PySem.W.fnOf "raw_times" "raw_times" (defArgs s_raw_times) (defBody s_raw_times) (defScope s_raw_times) .none kV14 dc14 pm14 an14 cd14 ct14), sl14⟩)
    (c14 : PySem.W.codeIn K cd14 "raw_times" = true)
    (k14 : PySem.W.keepIn K (.ref f14) = true)
    (a15 : PySem.W.nsIn K mainGlobals "raw_weighs" = some (some (.ref f15)))
    (l15 : K.lookup f15 = some ⟨oc15, od15, .func (PySem.W.fnOf "raw_weighs" "raw_weighs" (defArgs s_raw_weighs) (defBody s_raw_weighs) (defScope s_raw_weighs) .none kV15 dc15 pm15 an15 cd15 ct15), sl15⟩)
    (c15 : PySem.W.codeIn K cd15 "raw_weighs" = true)
    (k15 : PySem.W.keepIn K (.ref f15) = true)
    (a16 : PySem.W.nsIn K mainGlobals "is_fraction" = some (some (.ref f16)))
    (l16 : K.lookup f16 = some ⟨oc16, od16, .func (PySem.W.fnOf "is_fraction" "is_fraction" (defArgs s_is_fraction) (defBody s_is_fraction) (defScope s_is_fraction) .none kV16 dc16 pm16 an16 cd16 ct16), sl16⟩)
    (c16 : PySem.W.codeIn K cd16 "is_fraction" = true)
    (k16 : PySem.W.keepIn K (.ref f16) = true)
    (a17 : PySem.W.nsIn K mainGlobals "are_weights" = some (some (.ref f17)))
    (l17 : K.lookup f17 = some ⟨oc17, od17, .func (PySem.W.fnOf "are_weights" "are_weights" (defArgs s_are_weights) (defBody s_are_weights) (defScope s_are_weights) .none kV17 dc17 pm17 an17 cd17 ct17), sl17⟩)
    (c17 : PySem.W.codeIn K cd17 "are_weights" = true)
    (k17 : PySem.W.keepIn K (.ref f17) = true)
    (a18 : PySem.W.nsIn K mainGlobals "weighs" = some (some (.ref f18)))
    (l18 : K.lookup f18 = some ⟨oc18, od18, .func (PySem.W.fnOf "weighs" "weighs" (defArgs s_weighs) (defBody s_weighs) (defScope s_weighs) .none kV18 dc18 pm18 an18 cd18 ct18), sl18⟩)
    (c18 : PySem.W.codeIn K cd18 "weighs" = true)
    (k18 : PySem.W.keepIn K (.ref f18) = true)
    (a19 : PySem.W.nsIn K mainGlobals "check_fraction" = some (some (.ref f19)))
    (l19 : K.lookup f19 = some ⟨oc19, od19, .func (PySem.W.fnOf "check_fraction" "check_fraction" (defArgs s_check_fraction) (defBody s_check_fraction) (defScope s_check_fraction) .none kV19 dc19 pm19 an19 cd19 ct19), sl19⟩)
    (c19 : PySem.W.codeIn K cd19 "check_fraction" = true)
    (k19 : PySem.W.keepIn K (.ref f19) = true)
    (a20 : PySem.W.nsIn K mainGlobals "plus" = some (some (.ref f20)))
    (l20 : K.lookup f20 = some ⟨oc20, od20, .func (PySem.W.fnOf "plus" "plus" (defArgs s_plus) (defBody s_plus) (defScope s_plus) .none kV20 dc20 pm20 an20 cd20 ct20), sl20⟩)
    (c20 : PySem.W.codeIn K cd20 "plus" = true)
    (k20 : PySem.W.keepIn K (.ref f20) = true)
    (a21 : PySem.W.nsIn K mainGlobals "raw_less" = some (some (.ref f21)))
    (l21 : K.lookup f21 = some ⟨oc21, od21, .func (PySem.W.fnOf "raw_less" "raw_less" (defArgs s_raw_less) (defBody s_raw_less) (defScope s_raw_less) .none kV21 dc21 pm21 an21 cd21 ct21), sl21⟩)
    (c21 : PySem.W.codeIn K cd21 "raw_less" = true)
    (k21 : PySem.W.keepIn K (.ref f21) = true)
    (a22 : PySem.W.nsIn K mainGlobals "less" = some (some (.ref f22)))
    (l22 : K.lookup f22 = some ⟨oc22, od22, .func (PySem.W.fnOf "less" "less" (defArgs s_less) (defBody s_less) (defScope s_less) .none kV22 dc22 pm22 an22 cd22 ct22), sl22⟩)
    (c22 : PySem.W.codeIn K cd22 "less" = true)
    (k22 : PySem.W.keepIn K (.ref f22) = true)
    (a23 : PySem.W.nsIn K mainGlobals "times" = some (some (.ref f23)))
    (l23 : K.lookup f23 = some ⟨oc23, od23, .func (PySem.W.fnOf "times" "times" (defArgs s_times) (defBody s_times) (defScope s_times) .none kV23 dc23 pm23 an23 cd23 ct23), sl23⟩)
    (c23 : PySem.W.codeIn K cd23 "times" = true)
    (k23 : PySem.W.keepIn K (.ref f23) = true)
    (a24 : PySem.W.nsIn K mainGlobals "_law_is" = some (some (.ref f24)))
    (l24 : K.lookup f24 = some ⟨oc24, od24, .func (PySem.W.fnOf "_law_is" "_law_is" (defArgs s_law_is) (defBody s_law_is) (defScope s_law_is) .none kV24 dc24 pm24 an24 cd24 ct24), sl24⟩)
    (c24 : PySem.W.codeIn K cd24 "_law_is" = true)
    (k24 : PySem.W.keepIn K (.ref f24) = true)
    (a25 : PySem.W.nsIn K mainGlobals "raw_together" = some (some (.ref f25)))
    (l25 : K.lookup f25 = some ⟨oc25, od25, .func (PySem.W.fnOf "raw_together" "raw_together" (defArgs s_raw_together) (defBody s_raw_together) (defScope s_raw_together) .none kV25 dc25 pm25 an25 cd25 ct25), sl25⟩)
    (c25 : PySem.W.codeIn K cd25 "raw_together" = true)
    (k25 : PySem.W.keepIn K (.ref f25) = true)
    (a26 : PySem.W.nsIn K mainGlobals "together" = some (some (.ref f26)))
    (l26 : K.lookup f26 = some ⟨oc26, od26, .func (PySem.W.fnOf "together" "together" (defArgs s_together) (defBody s_together) (defScope s_together) .none kV26 dc26 pm26 an26 cd26 ct26), sl26⟩)
    (c26 : PySem.W.codeIn K cd26 "together" = true)
    (k26 : PySem.W.keepIn K (.ref f26) = true)
    (a27 : PySem.W.nsIn K mainGlobals "apart" = some (some (.ref f27)))
    (l27 : K.lookup f27 = some ⟨oc27, od27, .func (PySem.W.fnOf "apart" "apart" (defArgs s_apart) (defBody s_apart) (defScope s_apart) .none kV27 dc27 pm27 an27 cd27 ct27), sl27⟩)
    (c27 : PySem.W.codeIn K cd27 "apart" = true)
    (k27 : PySem.W.keepIn K (.ref f27) = true)
    (a28 : PySem.W.nsIn K mainGlobals "raw_raised" = some (some (.ref f28)))
    (l28 : K.lookup f28 = some ⟨oc28, od28, .func (PySem.W.fnOf "raw_raised" "raw_raised" (defArgs s_raw_raised) (defBody s_raw_raised) (defScope s_raw_raised) .none kV28 dc28 pm28 an28 cd28 ct28), sl28⟩)
    (c28 : PySem.W.codeIn K cd28 "raw_raised" = true)
    (k28 : PySem.W.keepIn K (.ref f28) = true)
    (a29 : PySem.W.nsIn K mainGlobals "is_within" = some (some (.ref f29)))
    (l29 : K.lookup f29 = some ⟨oc29, od29, .func (PySem.W.fnOf "is_within" "is_within" (defArgs s_is_within) (defBody s_is_within) (defScope s_is_within) .none kV29 dc29 pm29 an29 cd29 ct29), sl29⟩)
    (c29 : PySem.W.codeIn K cd29 "is_within" = true)
    (k29 : PySem.W.keepIn K (.ref f29) = true)
    (a30 : PySem.W.nsIn K mainGlobals "raised" = some (some (.ref f30)))
    (l30 : K.lookup f30 = some ⟨oc30, od30, .func (PySem.W.fnOf "raised" "raised" (defArgs s_raised) (defBody s_raised) (defScope s_raised) .none kV30 dc30 pm30 an30 cd30 ct30), sl30⟩)
    (c30 : PySem.W.codeIn K cd30 "raised" = true)
    (k30 : PySem.W.keepIn K (.ref f30) = true)
    (a31 : PySem.W.nsIn K mainGlobals "_law_refused" = some (some (.ref f31)))
    (l31 : K.lookup f31 = some ⟨oc31, od31, .func (PySem.W.fnOf "_law_refused" "_law_refused" (defArgs s_law_refused) (defBody s_law_refused) (defScope s_law_refused) .none kV31 dc31 pm31 an31 cd31 ct31), sl31⟩)
    (c31 : PySem.W.codeIn K cd31 "_law_refused" = true)
    (k31 : PySem.W.keepIn K (.ref f31) = true)
    (a32 : PySem.W.nsIn K mainGlobals "_law_weighed" = some (some (.ref f32)))
    (l32 : K.lookup f32 = some ⟨oc32, od32, .func (PySem.W.fnOf "_law_weighed" "_law_weighed" (defArgs s_law_weighed) (defBody s_law_weighed) (defScope s_law_weighed) .none kV32 dc32 pm32 an32 cd32 ct32), sl32⟩)
    (c32 : PySem.W.codeIn K cd32 "_law_weighed" = true)
    (k32 : PySem.W.keepIn K (.ref f32) = true)
    (a33 : PySem.W.nsIn K mainGlobals "law" = some (some (.ref f33)))
    (l33 : K.lookup f33 = some ⟨oc33, od33, .func (PySem.W.fnOf "law" "law" (defArgs s_law) (defBody s_law) (defScope s_law) .none kV33 dc33 pm33 an33 cd33 ct33), sl33⟩)
    (c33 : PySem.W.codeIn K cd33 "law" = true)
    (k33 : PySem.W.keepIn K (.ref f33) = true)
    (z_abs : PySem.W.nsIn K mainGlobals "abs" = some none)
    (z_all : PySem.W.nsIn K mainGlobals "all" = some none)
    (z_bool : PySem.W.nsIn K mainGlobals "bool" = some none)
    (z_dict : PySem.W.nsIn K mainGlobals "dict" = some none)
    (z_int : PySem.W.nsIn K mainGlobals "int" = some none)
    (z_isinstance : PySem.W.nsIn K mainGlobals "isinstance" = some none)
    (z_len : PySem.W.nsIn K mainGlobals "len" = some none)
    (z_list : PySem.W.nsIn K mainGlobals "list" = some none)
    (z_range : PySem.W.nsIn K mainGlobals "range" = some none)
    (z_sorted : PySem.W.nsIn K mainGlobals "sorted" = some none)
    (z_str : PySem.W.nsIn K mainGlobals "str" = some none)
    (z_tuple : PySem.W.nsIn K mainGlobals "tuple" = some none)
    (z_zip : PySem.W.nsIn K mainGlobals "zip" = some none)
    (gm_LETTERS : PySem.W.nsIn K mainGlobals "LETTERS" = some (some (.str "abcdefghijklmnopqrstuvwxyz" gt_LETTERS0)))
    (gm_MOST_NAME : PySem.W.nsIn K mainGlobals "MOST_NAME" = some (some (.int 8 gt_MOST_NAME0)))
    (gm_MOST_POWER : PySem.W.nsIn K mainGlobals "MOST_POWER" = some (some (.int 100 gt_MOST_POWER0)))
    (gm_NOUGHT : PySem.W.nsIn K mainGlobals "NOUGHT" = some (some (.ref ga_NOUGHT0)))
    (g_NOUGHT0 : K.lookup ga_NOUGHT0 = some ⟨.type "tuple", none, .seq ([.int 0 gt_NOUGHT1, .int 1 gt_NOUGHT2] : List Value).toArray gn_NOUGHT0, gs_NOUGHT0⟩)
    (xa_NoDimension : PySem.W.nsIn K mainGlobals "NoDimension" = some (some (.ref C_NoDimension)))
    (xb_NoDimension : PySem.W.excIn K C_NoDimension [.type "ValueError", .type "Exception", .type "BaseException", .type "object"] "ValueError.__new__" = true)
    (xc_NoDimension : PySem.W.keepIn K (.ref C_NoDimension) = true)
    (xd_NoDimension : PySem.W.subIn K (.ref C_NoDimension) (.type "BaseException") = some true)
    (xe_NoDimension : PySem.W.typeIn K (.ref C_NoDimension) = some (.type "type"))
    (xa_NoFraction : PySem.W.nsIn K mainGlobals "NoFraction" = some (some (.ref C_NoFraction)))
    (xb_NoFraction : PySem.W.excIn K C_NoFraction [.type "ValueError", .type "Exception", .type "BaseException", .type "object"] "ValueError.__new__" = true)
    (xc_NoFraction : PySem.W.keepIn K (.ref C_NoFraction) = true)
    (xd_NoFraction : PySem.W.subIn K (.ref C_NoFraction) (.type "BaseException") = some true)
    (xe_NoFraction : PySem.W.typeIn K (.ref C_NoFraction) = some (.type "type"))
    (xa_NoNumber : PySem.W.nsIn K mainGlobals "NoNumber" = some (some (.ref C_NoNumber)))
    (xb_NoNumber : PySem.W.excIn K C_NoNumber [.type "ValueError", .type "Exception", .type "BaseException", .type "object"] "ValueError.__new__" = true)
    (xc_NoNumber : PySem.W.keepIn K (.ref C_NoNumber) = true)
    (xd_NoNumber : PySem.W.subIn K (.ref C_NoNumber) (.type "BaseException") = some true)
    (xe_NoNumber : PySem.W.typeIn K (.ref C_NoNumber) = some (.type "type"))
    (xa_NoWeights : PySem.W.nsIn K mainGlobals "NoWeights" = some (some (.ref C_NoWeights)))
    (xb_NoWeights : PySem.W.excIn K C_NoWeights [.type "ValueError", .type "Exception", .type "BaseException", .type "object"] "ValueError.__new__" = true)
    (xc_NoWeights : PySem.W.keepIn K (.ref C_NoWeights) = true)
    (xd_NoWeights : PySem.W.subIn K (.ref C_NoWeights) (.type "BaseException") = some true)
    (xe_NoWeights : PySem.W.typeIn K (.ref C_NoWeights) = some (.type "type"))
    (xf_NoDimension : PySem.W.hasDictIn K C_NoDimension = true)
    (xf_NoWeights : PySem.W.hasDictIn K C_NoWeights = true)
    (em_NoDimension_NoDimension : PySem.W.subIn K (.ref C_NoDimension) (.ref C_NoDimension) = some true)
    (em_NoDimension_NoWeights : PySem.W.subIn K (.ref C_NoDimension) (.ref C_NoWeights) = some false)
    (em_NoWeights_NoDimension : PySem.W.subIn K (.ref C_NoWeights) (.ref C_NoDimension) = some false)
    (em_NoWeights_NoWeights : PySem.W.subIn K (.ref C_NoWeights) (.ref C_NoWeights) = some true)
    : ∃ fd : FuncData, (∀ (s : Shared) (v : Value), BindsTo s fd ⟨[v], []⟩ [("script", v)]) ∧ ∀ base : Heap, K.In base → base.Ns mainGlobals mg → FnOk P w K mg base (L2.CX P w) 7 fa fd ["script"] (spD K mg 1 F_law) := by
  have e := hfa.symm.trans (PySem.W.mg_of X G a33)
  cases e
  have Fu0 := fun_mk (st := s_law_hand) l0 c0 k0
  have Bi0 := Fu0.binds (ps := ["script"]) fun _ _ _ _ _ _ us hl => match us, hl with | [_], _ => rfl
  have Fu1 := fun_mk (st := s_law_draw) l1 c1 k1
  have Bi1 := Fu1.binds (ps := ["hand", "many"]) fun _ _ _ _ _ _ us hl => match us, hl with | [_, _], _ => rfl
  have Fu2 := fun_mk (st := s_law_names) l2 c2 k2
  have Bi2 := Fu2.binds (ps := ["hand", "many"]) fun _ _ _ _ _ _ us hl => match us, hl with | [_, _], _ => rfl
  have Fu3 := fun_mk (st := s_law_low) l3 c3 k3
  have Bi3 := Fu3.binds (ps := ["top", "bottom"]) fun _ _ _ _ _ _ us hl => match us, hl with | [_, _], _ => rfl
  have Fu4 := fun_mk (st := s_law_weights) l4 c4 k4
  have Bi4 := Fu4.binds (ps := ["hand", "names"]) fun _ _ _ _ _ _ us hl => match us, hl with | [_, _], _ => rfl
  have Fu5 := fun_mk (st := s_law_size) l5 c5 k5
  have Bi5 := Fu5.binds (ps := ["hand", "names", "most"]) fun _ _ _ _ _ _ us hl => match us, hl with | [_, _, _], _ => rfl
  have Fu6 := fun_mk (st := s_is_name) l6 c6 k6
  have Bi6 := Fu6.binds (ps := ["thing"]) fun _ _ _ _ _ _ us hl => match us, hl with | [_], _ => rfl
  have Fu7 := fun_mk (st := s_are_named_pairs) l7 c7 k7
  have Bi7 := Fu7.binds (ps := ["thing"]) fun _ _ _ _ _ _ us hl => match us, hl with | [_], _ => rfl
  have Fu8 := fun_mk (st := s_is_integer) l8 c8 k8
  have Bi8 := Fu8.binds (ps := ["thing"]) fun _ _ _ _ _ _ us hl => match us, hl with | [_], _ => rfl
  have Fu9 := fun_mk (st := s_is_dimension) l9 c9 k9
  have Bi9 := Fu9.binds (ps := ["thing"]) fun _ _ _ _ _ _ us hl => match us, hl with | [_], _ => rfl
  have Fu10 := fun_mk (st := s_check_dimension) l10 c10 k10
  have Bi10 := Fu10.binds (ps := ["thing"]) fun _ _ _ _ _ _ us hl => match us, hl with | [_], _ => rfl
  have Fu11 := fun_mk (st := s_divisor) l11 c11 k11
  have Bi11 := Fu11.binds (ps := ["x", "y"]) fun _ _ _ _ _ _ us hl => match us, hl with | [_, _], _ => rfl
  have Fu12 := fun_mk (st := s_made) l12 c12 k12
  have Bi12 := Fu12.binds (ps := ["top", "bottom"]) fun _ _ _ _ _ _ us hl => match us, hl with | [_, _], _ => rfl
  have Fu13 := fun_mk (st := s_raw_plus) l13 c13 k13
  have Bi13 := Fu13.binds (ps := ["x", "y"]) fun _ _ _ _ _ _ us hl => match us, hl with | [_, _], _ => rfl
  have Fu14 := fun_mk (st := s_raw_times) l14 c14 k14
  have Bi14 := Fu14.binds (ps := ["x", "y"]) fun _ _ _ _ _ _ us hl => match us, hl with | [_, _], _ => rfl
  have Fu15 := fun_mk (st := s_raw_weighs) l15 c15 k15
  have Bi15 := Fu15.binds (ps := ["weights", "dimension"]) fun _ _ _ _ _ _ us hl => match us, hl with | [_, _], _ => rfl
  have Fu16 := fun_mk (st := s_is_fraction) l16 c16 k16
  have Bi16 := Fu16.binds (ps := ["thing"]) fun _ _ _ _ _ _ us hl => match us, hl with | [_], _ => rfl
  have Fu17 := fun_mk (st := s_are_weights) l17 c17 k17
  have Bi17 := Fu17.binds (ps := ["thing"]) fun _ _ _ _ _ _ us hl => match us, hl with | [_], _ => rfl
  have Fu18 := fun_mk (st := s_weighs) l18 c18 k18
  have Bi18 := Fu18.binds (ps := ["weights", "dimension"]) fun _ _ _ _ _ _ us hl => match us, hl with | [_, _], _ => rfl
  have Fu19 := fun_mk (st := s_check_fraction) l19 c19 k19
  have Bi19 := Fu19.binds (ps := ["thing"]) fun _ _ _ _ _ _ us hl => match us, hl with | [_], _ => rfl
  have Fu20 := fun_mk (st := s_plus) l20 c20 k20
  have Bi20 := Fu20.binds (ps := ["x", "y"]) fun _ _ _ _ _ _ us hl => match us, hl with | [_, _], _ => rfl
  have Fu21 := fun_mk (st := s_raw_less) l21 c21 k21
  have Bi21 := Fu21.binds (ps := ["x", "y"]) fun _ _ _ _ _ _ us hl => match us, hl with | [_, _], _ => rfl
  have Fu22 := fun_mk (st := s_less) l22 c22 k22
  have Bi22 := Fu22.binds (ps := ["x", "y"]) fun _ _ _ _ _ _ us hl => match us, hl with | [_, _], _ => rfl
  have Fu23 := fun_mk (st := s_times) l23 c23 k23
  have Bi23 := Fu23.binds (ps := ["x", "y"]) fun _ _ _ _ _ _ us hl => match us, hl with | [_, _], _ => rfl
  have Fu24 := fun_mk (st := s_law_is) l24 c24 k24
  have Bi24 := Fu24.binds (ps := ["got", "due"]) fun _ _ _ _ _ _ us hl => match us, hl with | [_, _], _ => rfl
  have Fu25 := fun_mk (st := s_raw_together) l25 c25 k25
  have Bi25 := Fu25.binds (ps := ["one", "other", "sign"]) fun _ _ _ _ _ _ us hl => match us, hl with | [_, _, _], _ => rfl
  have Fu26 := fun_mk (st := s_together) l26 c26 k26
  have Bi26 := Fu26.binds (ps := ["one", "other"]) fun _ _ _ _ _ _ us hl => match us, hl with | [_, _], _ => rfl
  have Fu27 := fun_mk (st := s_apart) l27 c27 k27
  have Bi27 := Fu27.binds (ps := ["one", "other"]) fun _ _ _ _ _ _ us hl => match us, hl with | [_, _], _ => rfl
  have Fu28 := fun_mk (st := s_raw_raised) l28 c28 k28
  have Bi28 := Fu28.binds (ps := ["one", "n"]) fun _ _ _ _ _ _ us hl => match us, hl with | [_, _], _ => rfl
  have Fu29 := fun_mk (st := s_is_within) l29 c29 k29
  have Bi29 := Fu29.binds (ps := ["thing", "low", "high"]) fun _ _ _ _ _ _ us hl => match us, hl with | [_, _, _], _ => rfl
  have Fu30 := fun_mk (st := s_raised) l30 c30 k30
  have Bi30 := Fu30.binds (ps := ["one", "n"]) fun _ _ _ _ _ _ us hl => match us, hl with | [_, _], _ => rfl
  have Fu31 := fun_mk (st := s_law_refused) l31 c31 k31
  have Bi31 := Fu31.binds (ps := ["weights", "size"]) fun _ _ _ _ _ _ us hl => match us, hl with | [_, _], _ => rfl
  have Fu32 := fun_mk (st := s_law_weighed) l32 c32 k32
  have Bi32 := Fu32.binds (ps := ["weights", "size"]) fun _ _ _ _ _ _ us hl => match us, hl with | [_, _], _ => rfl
  have Fu33 := fun_mk (st := s_law) l33 c33 k33
  have T : Top K mg := {
    z_abs := PySem.W.mg_none_of X G z_abs
    z_all := PySem.W.mg_none_of X G z_all
    z_bool := PySem.W.mg_none_of X G z_bool
    z_dict := PySem.W.mg_none_of X G z_dict
    z_int := PySem.W.mg_none_of X G z_int
    z_isinstance := PySem.W.mg_none_of X G z_isinstance
    z_len := PySem.W.mg_none_of X G z_len
    z_list := PySem.W.mg_none_of X G z_list
    z_range := PySem.W.mg_none_of X G z_range
    z_sorted := PySem.W.mg_none_of X G z_sorted
    z_str := PySem.W.mg_none_of X G z_str
    z_tuple := PySem.W.mg_none_of X G z_tuple
    z_zip := PySem.W.mg_none_of X G z_zip
    g_LETTERS := ⟨_, PySem.W.mg_of X G gm_LETTERS, kv_str⟩
    g_MOST_NAME := ⟨_, PySem.W.mg_of X G gm_MOST_NAME, kv_int⟩
    g_MOST_POWER := ⟨_, PySem.W.mg_of X G gm_MOST_POWER, kv_int⟩
    g_NOUGHT := ⟨_, PySem.W.mg_of X G gm_NOUGHT, (kv_tup g_NOUGHT0 (kvs_cons kv_int (kvs_cons kv_int kvs_nil)))⟩
    x_NoDimension := ⟨_, PySem.W.mg_of X G xa_NoDimension, xb_NoDimension, xc_NoDimension, xd_NoDimension, xe_NoDimension⟩
    x_NoFraction := ⟨_, PySem.W.mg_of X G xa_NoFraction, xb_NoFraction, xc_NoFraction, xd_NoFraction, xe_NoFraction⟩
    x_NoNumber := ⟨_, PySem.W.mg_of X G xa_NoNumber, xb_NoNumber, xc_NoNumber, xd_NoNumber, xe_NoNumber⟩
    x_NoWeights := ⟨_, PySem.W.mg_of X G xa_NoWeights, xb_NoWeights, xc_NoWeights, xd_NoWeights, xe_NoWeights⟩
    em_law_refused := (excM_cons (excM1_cons (PySem.W.mg_of X G xa_NoDimension) (PySem.W.mg_of X G xa_NoWeights) ((PySem.W.exm_ref xd_NoWeights xf_NoWeights xe_NoWeights em_NoDimension_NoWeights).trans (by decide)) (excM1_cons (PySem.W.mg_of X G xa_NoDimension) (PySem.W.mg_of X G xa_NoDimension) ((PySem.W.exm_ref xd_NoDimension xf_NoDimension xe_NoDimension em_NoDimension_NoDimension).trans (by decide)) excM1_nil)) (excM_cons (excM1_cons (PySem.W.mg_of X G xa_NoWeights) (PySem.W.mg_of X G xa_NoWeights) ((PySem.W.exm_ref xd_NoWeights xf_NoWeights xe_NoWeights em_NoWeights_NoWeights).trans (by decide)) (excM1_cons (PySem.W.mg_of X G xa_NoWeights) (PySem.W.mg_of X G xa_NoDimension) ((PySem.W.exm_ref xd_NoDimension xf_NoDimension xe_NoDimension em_NoWeights_NoDimension).trans (by decide)) excM1_nil)) excM_nil))
    f_law_hand := ⟨_, _, PySem.W.mg_of X G a0, Fu0, Bi0⟩
    f_law_draw := ⟨_, _, PySem.W.mg_of X G a1, Fu1, Bi1⟩
    f_law_names := ⟨_, _, PySem.W.mg_of X G a2, Fu2, Bi2⟩
    f_law_low := ⟨_, _, PySem.W.mg_of X G a3, Fu3, Bi3⟩
    f_law_weights := ⟨_, _, PySem.W.mg_of X G a4, Fu4, Bi4⟩
    f_law_size := ⟨_, _, PySem.W.mg_of X G a5, Fu5, Bi5⟩
    f_is_name := ⟨_, _, PySem.W.mg_of X G a6, Fu6, Bi6⟩
    f_are_named_pairs := ⟨_, _, PySem.W.mg_of X G a7, Fu7, Bi7⟩
    f_is_integer := ⟨_, _, PySem.W.mg_of X G a8, Fu8, Bi8⟩
    f_is_dimension := ⟨_, _, PySem.W.mg_of X G a9, Fu9, Bi9⟩
    f_check_dimension := ⟨_, _, PySem.W.mg_of X G a10, Fu10, Bi10⟩
    f_divisor := ⟨_, _, PySem.W.mg_of X G a11, Fu11, Bi11⟩
    f_made := ⟨_, _, PySem.W.mg_of X G a12, Fu12, Bi12⟩
    f_raw_plus := ⟨_, _, PySem.W.mg_of X G a13, Fu13, Bi13⟩
    f_raw_times := ⟨_, _, PySem.W.mg_of X G a14, Fu14, Bi14⟩
    f_raw_weighs := ⟨_, _, PySem.W.mg_of X G a15, Fu15, Bi15⟩
    f_is_fraction := ⟨_, _, PySem.W.mg_of X G a16, Fu16, Bi16⟩
    f_are_weights := ⟨_, _, PySem.W.mg_of X G a17, Fu17, Bi17⟩
    f_weighs := ⟨_, _, PySem.W.mg_of X G a18, Fu18, Bi18⟩
    f_check_fraction := ⟨_, _, PySem.W.mg_of X G a19, Fu19, Bi19⟩
    f_plus := ⟨_, _, PySem.W.mg_of X G a20, Fu20, Bi20⟩
    f_raw_less := ⟨_, _, PySem.W.mg_of X G a21, Fu21, Bi21⟩
    f_less := ⟨_, _, PySem.W.mg_of X G a22, Fu22, Bi22⟩
    f_times := ⟨_, _, PySem.W.mg_of X G a23, Fu23, Bi23⟩
    f_law_is := ⟨_, _, PySem.W.mg_of X G a24, Fu24, Bi24⟩
    f_raw_together := ⟨_, _, PySem.W.mg_of X G a25, Fu25, Bi25⟩
    f_together := ⟨_, _, PySem.W.mg_of X G a26, Fu26, Bi26⟩
    f_apart := ⟨_, _, PySem.W.mg_of X G a27, Fu27, Bi27⟩
    f_raw_raised := ⟨_, _, PySem.W.mg_of X G a28, Fu28, Bi28⟩
    f_is_within := ⟨_, _, PySem.W.mg_of X G a29, Fu29, Bi29⟩
    f_raised := ⟨_, _, PySem.W.mg_of X G a30, Fu30, Bi30⟩
    f_law_refused := ⟨_, _, PySem.W.mg_of X G a31, Fu31, Bi31⟩
    f_law_weighed := ⟨_, _, PySem.W.mg_of X G a32, Fu32, Bi32⟩
    }
  exact ⟨_, fun s v => .of_eq rfl, fun base _ _ => fn_mk (N := ["script", "hand", "names", "weights", "most", "one", "other", "many", "mine", "yours", "base", "share", "absent", "wrong", "thing", "name"]) Fu33 sc_law fun cdv A outer s H E c hr => b_law T cdv A outer s H E _ c hr⟩
end KK

namespace KK
open PySem PySem.Spec PyProof.Rows L2 DL
/-! ### draws -/
def HandIs (h : LH) (i j : Nat) (cells : List Int) (a b c d : Int) : Prop :=
  h[i]? = some (.lst [.ref j, .int a, .int b, .int c, .int d]) ∧ h[j]? = some (.lst (cells.map .int)) ∧ j < i
theorem HandIs.set {h : LH} {i j : Nat} {cells : List Int} {a b c d a' b' c' d' : Int} (H : HandIs h i j cells a b c d) : HandIs (h.set i (.lst [.ref j, .int a', .int b', .int c', .int d'])) i j cells a' b' c' d' := by
  obtain ⟨h1, h2, h3⟩ := H
  have hl : i < h.length := (List.getElem?_eq_some_iff.mp h1).1
  exact ⟨by rw [List.getElem?_set_self hl], by rw [List.getElem?_set_ne (Nat.ne_of_gt h3)]; exact h2, h3⟩
theorem draw_s1 {h : LH} {i j : Nat} {cells : List Int} {a b c d many : Int} (H : HandIs h i j cells a b c d) (hc : ∀ x ∈ cells, 0 ≤ x) (ha : 0 ≤ a) (hb : 0 ≤ b) (hcc : 0 ≤ c) :
    ∃ a' b' c' x, law_draw_s1 [some (.ref i), some (.int many), none, none, none] h = some (.nx [some (.ref i), some (.int many), x, none, none] (h.set i (.lst [.ref j, .int a', .int b', .int c', .int d]))) ∧ 0 ≤ a' ∧ 0 ≤ b' ∧ 0 ≤ c' := by
  obtain ⟨hi, hj, hij⟩ := H
  have hil : i < h.length := (List.getElem?_eq_some_iff.mp hi).1
  have same : h.set i (.lst [.ref j, .int a, .int b, .int c, .int d]) = h := by
    have := (List.getElem?_eq_some_iff.mp hi).2
    rw [← this]; simp
  by_cases h0 : b = 0
  · by_cases hl : a < (cells.length : Int)
    · obtain ⟨n, rfl⟩ := Int.eq_ofNat_of_zero_le ha
      have hn : n < cells.length := by omega
      obtain ⟨x, hx⟩ : ∃ x, cells[n]? = some x := ⟨_, List.getElem?_eq_getElem hn⟩
      have hx0 : 0 ≤ x := hc x (List.mem_of_getElem? hx)
      have hcell : atI (cells.map D.int) (n : Int) = some (.int x) := by rw [atI_lit, List.getElem?_map, hx]; rfl
      have hm : mulOk c 69621 := mulOk_r (by decide)
      have hmod : 0 ≤ (c * 69621 + x + 29).fmod 2147483629 := Int.fmod_nonneg_of_pos _ (by decide)
      have hp : gPow (.int 10) (.int 18) = fun h => some (.int (10 ^ 18), h) := by
        funext h; exact gPow_nat 10 18 h (by decide) (by decide)
      subst h0
      by_cases hbig : (10 : Int) ^ 18 ≤ x
      · refine ⟨n + 1, x, (c * 69621 + x + 29).fmod 2147483629, some (.int x), ?_, by omega, by omega, hmod⟩
        simp [law_draw_s1, law_draw_s8, law_draw_s9, law_draw_s10, law_draw_s11, gIx_lst hi, gLen_lst hj, hl, gIx_lst hj, hcell, stD_lst hi, ixN_1, gIx_lst (List.getElem?_set_self hil), gMul_int _ hm, gMod_int, stD_lst (List.getElem?_set_self hil), ixN_3, ixN_2, hp, hbig]
        intro q; exfalso; omega
      · refine ⟨n + 1, 0, (c * 69621 + x + 29).fmod 2147483629, some (.int x), ?_, by omega, by omega, hmod⟩
        simp [law_draw_s1, law_draw_s8, law_draw_s9, law_draw_s10, law_draw_s11, gIx_lst hi, gLen_lst hj, hl, gIx_lst hj, hcell, stD_lst hi, ixN_1, gIx_lst (List.getElem?_set_self hil), gMul_int _ hm, gMod_int, stD_lst (List.getElem?_set_self hil), ixN_3, ixN_2, hp, hbig]
        intro q; exfalso; omega
    · refine ⟨a, b, c, none, ?_, ha, hb, hcc⟩
      rw [same]
      simp [law_draw_s1, gIx_lst hi, gLen_lst hj, h0, hl]
  · refine ⟨a, b, c, none, ?_, ha, hb, hcc⟩
    rw [same]
    simp [law_draw_s1, gIx_lst hi, gLen_lst hj, h0]

structure Hand (h : LH) (i : Nat) : Prop where
  ex : ∃ j cells a b c d, HandIs h i j cells a b c d ∧ (∀ x ∈ cells, 0 ≤ x) ∧ 0 ≤ a ∧ 0 ≤ b ∧ 0 ≤ c ∧ 0 ≤ d
theorem fnD_eq (n : Nat) (m : SM) (ds : List D) (lh : LH) {r : Option SR} (e : m (initD n ds) lh = r) : fnD n m ds lh = gc lh (toR r) := by rw [fnD_ap, e]
theorem draw {h : LH} {i : Nat} {many : Int} (H : Hand h i) (hm : 0 < many) (hs : many.natAbs < 2 ^ 8000) :
    ∃ r x, F_law_draw [.ref i, .int many] h = some (.ok (.int r) (h.set i x)) ∧ 0 ≤ r ∧ r < many ∧ Hand (h.set i x) i := by
  obtain ⟨j, cells, a, b, c, d, H, hcells, ha, hb, hc, hd⟩ := H.ex
  obtain ⟨a', b', c', y, e1, ha', hb', hc'⟩ := draw_s1 (many := many) H hcells ha hb hc
  have H1 := H.set (a' := a') (b' := b') (c' := c') (d' := d)
  have ok : divOk b' many := divOk_pow (by omega) hs (by decide)
  by_cases h0 : 0 < b'
  · refine ⟨b'.fmod many, (.lst [.ref j, .int a', .int (b'.fdiv many), .int c', .int d]), ?_, Int.fmod_nonneg_of_pos _ hm, Int.fmod_lt_of_pos _ hm, ?_⟩
    · refine (fnD_eq _ _ _ _ (r := some (.rt (.int (b'.fmod many)) (h.set i (.lst [.ref j, .int a', .int (b'.fdiv many), .int c', .int d])))) ?_).trans (gc_same (by simp))
      show D_law_draw [some (.ref i), some (.int many), none, none, none] h = _
      unfold D_law_draw
      rw [seq_nx e1]
      obtain ⟨hi, hj, hij⟩ := H1
      have hil : i < (h.set i (.lst [.ref j, .int a', .int b', .int c', .int d])).length := (List.getElem?_eq_some_iff.mp hi).1
      have hne : many ≠ 0 := by omega
      refine seq_rt ?_
      simp [law_draw_s2, law_draw_s12, law_draw_s13, law_draw_s14, gIx_lst hi, h0, gMod_int _ hne, gFdiv_int _ ok, stD_lst hi, ixN_2]
    · have H2 := H1.set (a' := a') (b' := b'.fdiv many) (c' := c') (d' := d)
      rw [List.set_set] at H2
      exact ⟨_, _, _, _, _, _, H2, hcells, ha', Int.fdiv_nonneg hb' (by omega), hc', hd⟩
  · refine ⟨((((((((c' + 7919 * (d + 1)) * 48271).fmod 2147483647) * ((((c' + 7919 * (d + 1)) * 48271).fmod 2147483647).fdiv 1009 + 69621)).fmod 2147483647) * ((((((c' + 7919 * (d + 1)) * 48271).fmod 2147483647) * ((((c' + 7919 * (d + 1)) * 48271).fmod 2147483647).fdiv 1009 + 69621)).fmod 2147483647).fdiv 2003 + 40692)).fmod 2147483399).fdiv 16).fmod many, (.lst [.ref j, .int a', .int b', .int c', .int (d + 1)]), ?_, Int.fmod_nonneg_of_pos _ hm, Int.fmod_lt_of_pos _ hm, ?_⟩
    · refine (fnD_eq _ _ _ _ (r := some (.rt (.int _) (h.set i (.lst [.ref j, .int a', .int b', .int c', .int (d + 1)])))) ?_).trans (gc_same (by simp))
      show D_law_draw [some (.ref i), some (.int many), none, none, none] h = _
      unfold D_law_draw
      rw [seq_nx e1]
      have H2 := H1.set (a' := a') (b' := b') (c' := c') (d' := d + 1)
      rw [List.set_set] at H2
      obtain ⟨hi, hj, hij⟩ := H1
      obtain ⟨hi2, hj2, _⟩ := H2
      have hne : many ≠ 0 := by omega
      rw [seq_nx (δ' := [some (.ref i), some (.int many), y, none, none]) (h' := h.set i (.lst [.ref j, .int a', .int b', .int c', .int d])) (by simp [law_draw_s2, gIx_lst hi, h0])]
      rw [seq_nx (δ' := [some (.ref i), some (.int many), y, none, none]) (h' := h.set i (.lst [.ref j, .int a', .int b', .int c', .int (d + 1)])) (by simp [law_draw_s3, gIx_lst hi, stD_lst hi, ixN_4])]
      have lt : ∀ (x m : Int), 0 < m → m < 4294967296 → (x.fmod m).natAbs < 2 ^ 64 := fun x m h1 h2 => by
        have := Int.fmod_nonneg_of_pos x h1
        have := Int.fmod_lt_of_pos x h1
        omega
      have m1 : ∀ x : Int, mulOk 7919 x := fun x => mulOk_l (by decide)
      have m2 : ∀ x : Int, mulOk x 48271 := fun x => mulOk_r (by decide)
      have m3 : ∀ x y : Int, mulOk (x.fmod 2147483647) y := fun x y => mulOk_l (lt x _ (by decide) (by decide))
      have dv : ∀ (x k : Int), k ≠ 0 → k.natAbs < 2 ^ 64 → divOk x k := fun x k h0 hk => divOk_pow h0 hk (by decide)
      generalize hn1 : ((c' + 7919 * (d + 1)) * 48271).fmod 2147483647 = n1
      rw [seq_nx (δ' := [some (.ref i), some (.int many), y, none, some (.int n1)]) (h' := h.set i (.lst [.ref j, .int a', .int b', .int c', .int (d + 1)])) (by simp [law_draw_s4, gIx_lst hi2, gMul_int _ (m1 _), gMul_int _ (m2 _), gMod_int, hn1])]
      have k1 : ∀ y : Int, mulOk n1 y := fun y => by rw [← hn1]; exact m3 _ _
      generalize hn2 : (n1 * (n1.fdiv 1009 + 69621)).fmod 2147483647 = n2
      rw [seq_nx (δ' := [some (.ref i), some (.int many), y, none, some (.int n2)]) (h' := h.set i (.lst [.ref j, .int a', .int b', .int c', .int (d + 1)])) (by simp [law_draw_s5, gMul_int _ (k1 _), gFdiv_int _ (dv _ 1009 (by decide) (by decide)), gMod_int, hn2])]
      have k2 : ∀ y : Int, mulOk n2 y := fun y => by rw [← hn2]; exact m3 _ _
      rw [seq_nx (δ' := [some (.ref i), some (.int many), y, none, some (.int ((n2 * (n2.fdiv 2003 + 40692)).fmod 2147483399))]) (h' := h.set i (.lst [.ref j, .int a', .int b', .int c', .int (d + 1)])) (by simp [law_draw_s6, gMul_int _ (k2 _), gFdiv_int _ (dv _ 2003 (by decide) (by decide)), gMod_int])]
      simp [law_draw_s7, gFdiv_int _ (dv _ 16 (by decide) (by decide)), gMod_int _ hne]
    · have H2 := H1.set (a' := a') (b' := b') (c' := c') (d' := d + 1)
      rw [List.set_set] at H2
      exact ⟨_, _, _, _, _, _, H2, hcells, ha', hb', hc', by omega⟩
end KK

namespace KK
open PySem PySem.Spec PyProof.Rows L2 DL
/-! ### fractions -/
theorem is_integer_int (i : Int) (h : LH) : F_is_integer [.int i] h = some (.ok (.bl true) h) := by
  simp [F_is_integer, D_is_integer, fnD_ap, isiB]
theorem is_integer_bl (i : Bool) (h : LH) : F_is_integer [.bl i] h = some (.ok (.bl false) h) := by
  simp [F_is_integer, D_is_integer, fnD_ap, isiB]
theorem is_integer_non (h : LH) : F_is_integer [.non] h = some (.ok (.bl false) h) := by
  simp [F_is_integer, D_is_integer, fnD_ap, isiB]
theorem is_integer_str (x : Str) (h : LH) : F_is_integer [.str x] h = some (.ok (.bl false) h) := by
  simp [F_is_integer, D_is_integer, fnD_ap, isiB]
theorem is_integer_tup (x : List D) (h : LH) : F_is_integer [.tup x] h = some (.ok (.bl false) h) := by
  simp [F_is_integer, D_is_integer, fnD_ap, isiB]
theorem divisor_loop (h : LH) : ∀ (y x : Nat), sWh divisor_c1 divisor_b1 [some (.int x), some (.int y)] h = some (.nx [some (.int (Nat.gcd x y)), some (.int 0)] h) := by
  intro y
  induction y using Nat.strongRecOn with
  | _ y ih =>
    intro x
    rw [sWh_eq]
    by_cases h0 : y = 0
    · subst h0
      simp [divisor_c1]
    · have hy : (y : Int) ≠ 0 := by omega
      have e : ((x : Int).fmod (y : Int)) = ((x % y : Nat) : Int) := by
        rw [Int.fmod_eq_emod_of_nonneg _ (by omega)]; rfl
      have lt : x % y < y := Nat.mod_lt _ (by omega)
      have := ih (x % y) lt y
      have g : Nat.gcd x y = Nat.gcd y (x % y) := by rw [Nat.gcd_comm x y, Nat.gcd_rec y x, Nat.gcd_comm]
      simp [divisor_c1, divisor_b1, h0, gMod_int _ hy, e]
      rw [g]
      exact_mod_cast this
theorem divisor_ok (x y : Nat) (h : LH) : F_divisor [.int x, .int y] h = some (.ok (.int (Nat.gcd x y)) h) := by
  simp [F_divisor, D_divisor, fnD_ap, divisor_s1, divisor_s2, divisor_loop]
theorem divisor_abs (a b : Int) (h : LH) : F_divisor [.int (a.natAbs : Int), .int (b.natAbs : Int)] h = some (.ok (.int (Int.gcd a b)) h) := divisor_ok _ _ _
/-- a fraction as it lies -/
def rD (r : Rat) : D := .tup [.int r.num, .int r.den]
theorem num_le (a b : Int) : (Rat.divInt a b).num.natAbs ≤ a.natAbs := by
  rw [Rat.num_divInt]
  have h1 : (b.sign * a / (Int.gcd b a : Int)).natAbs ≤ (b.sign * a).natAbs := by
    exact Int.natAbs_ediv_le_natAbs _ _
  refine Nat.le_trans h1 ?_
  rw [Int.natAbs_mul]
  rcases Int.lt_trichotomy b 0 with h | h | h
  · rw [Int.sign_eq_neg_one_of_neg h]; simp
  · subst h; simp
  · rw [Int.sign_eq_one_of_pos h]; simp
theorem den_le (a b : Int) (hb : b ≠ 0) : (Rat.divInt a b).den ≤ b.natAbs := by
  rw [Rat.den_divInt, if_neg hb]
  exact Nat.div_le_self _ _
theorem made_val (a b : Int) (hb : b ≠ 0) : a.fdiv (if b < 0 then -((Int.gcd a b : Nat) : Int) else ((Int.gcd a b : Nat) : Int)) = (Rat.divInt a b).num ∧ b.fdiv (if b < 0 then -((Int.gcd a b : Nat) : Int) else ((Int.gcd a b : Nat) : Int)) = ((Rat.divInt a b).den : Int) := by
  rw [Rat.num_divInt, Rat.den_divInt, if_neg hb, Int.gcd_comm b a]
  have hg : 0 ≤ ((Int.gcd a b : Nat) : Int) := by omega
  have nn : ∀ x : Int, x.fdiv (-((Int.gcd a b : Nat) : Int)) = (-x) / ((Int.gcd a b : Nat) : Int) := fun x => by
    have := Int.neg_fdiv_neg (-x) ((Int.gcd a b : Nat) : Int)
    rw [Int.neg_neg] at this
    rw [this, Int.fdiv_eq_ediv_of_nonneg _ hg]
  by_cases h : b < 0
  · rw [if_pos h, nn, nn, Int.sign_eq_neg_one_of_neg h]
    refine ⟨by rw [Int.neg_one_mul], ?_⟩
    have : -b = (b.natAbs : Int) := by omega
    rw [this]
    rfl
  · rw [if_neg h, Int.fdiv_eq_ediv_of_nonneg _ hg, Int.fdiv_eq_ediv_of_nonneg _ hg, Int.sign_eq_one_of_pos (by omega)]
    refine ⟨by rw [Int.one_mul], ?_⟩
    have : b = (b.natAbs : Int) := by omega
    generalize hx : Int.gcd a b = g
    rw [this]
    rfl
theorem gcd_div_ok (a b x : Int) (hb : b ≠ 0) (hs : b.natAbs < 2 ^ 8000) : divOk x (if b < 0 then -((Int.gcd a b : Nat) : Int) else ((Int.gcd a b : Nat) : Int)) := by
  have h1 : Int.gcd a b ≠ 0 := by
    intro e
    rw [Int.gcd_eq_zero_iff] at e
    exact hb e.2
  have h2 : Int.gcd a b ≤ b.natAbs := Nat.le_of_dvd (by omega) (Int.gcd_dvd_natAbs_right a b)
  refine divOk_pow (k := 8000) ?_ ?_ (by decide)
  · split <;> omega
  · split <;> omega
theorem made_ok (a b : Int) (h : LH) (hb : b ≠ 0) (hs : b.natAbs < 2 ^ 8000) : F_made [.int a, .int b] h = some (.ok (rD (Rat.divInt a b)) h) := by
  obtain ⟨e1, e2⟩ := made_val a b hb
  have d1 := fun x => gcd_div_ok a b x hb hs
  rw [rD, ← e1, ← e2]
  by_cases hn : b < 0
  · simp only [if_pos hn] at d1 ⊢
    simp [F_made, D_made, fnD_ap, made_s1, made_s2, made_s3, divisor_abs, hn, gFdiv_int _ (d1 _)]
  · simp only [if_neg hn] at d1 ⊢
    simp [F_made, D_made, fnD_ap, made_s1, made_s2, made_s3, divisor_abs, hn, gFdiv_int _ (d1 _)]
/-- numbers below 2^k -/
def sz (k : Nat) (r : Rat) : Prop := r.num.natAbs < 2 ^ k ∧ r.den < 2 ^ k
theorem sz_mono {k l : Nat} {r : Rat} (h : sz k r) (l' : k ≤ l) : sz l r :=
  ⟨Nat.lt_of_lt_of_le h.1 (Nat.pow_le_pow_right (by decide) l'), Nat.lt_of_lt_of_le h.2 (Nat.pow_le_pow_right (by decide) l')⟩
theorem mul_lt_pow {a b k l : Nat} (h1 : a < 2 ^ k) (h2 : b < 2 ^ l) : a * b < 2 ^ (k + l) := by
  rw [Nat.pow_add]
  exact Nat.mul_lt_mul'' h1 h2
theorem rat_add (x y : Rat) : Rat.divInt (x.num * y.den + y.num * x.den) (x.den * y.den : Int) = x + y := by
  rw [Rat.add_def', ← Rat.divInt_ofNat]; simp
theorem rat_sub (x y : Rat) : Rat.divInt (x.num * y.den - y.num * x.den) (x.den * y.den : Int) = x - y := by
  rw [Rat.sub_def', ← Rat.divInt_ofNat]; simp
theorem rat_mul (x y : Rat) : Rat.divInt (x.num * y.num) (x.den * y.den : Int) = x * y := by
  rw [Rat.mul_def', ← Rat.divInt_ofNat]; simp
theorem den_ne (x : Rat) : (x.den : Int) ≠ 0 := by have := x.den_nz; omega
theorem den_mul_ne (x y : Rat) : (x.den : Int) * (y.den : Int) ≠ 0 := Int.mul_ne_zero (den_ne x) (den_ne y)
theorem natAbs_cast_mul (a b : Nat) : ((a : Int) * (b : Int)).natAbs = a * b := by rw [Int.natAbs_mul]; simp
theorem sz_mul {k l : Nat} {x y : Rat} (hx : sz k x) (hy : sz l y) : sz (k + l) (x * y) := by
  rw [← rat_mul]
  refine ⟨Nat.lt_of_le_of_lt (num_le _ _) ?_, Nat.lt_of_le_of_lt (den_le _ _ (den_mul_ne x y)) ?_⟩
  · rw [Int.natAbs_mul]; exact mul_lt_pow hx.1 hy.1
  · rw [natAbs_cast_mul]; exact mul_lt_pow hx.2 hy.2
theorem sz_add {k l : Nat} {x y : Rat} (hx : sz k x) (hy : sz l y) : sz (k + l + 1) (x + y) := by
  rw [← rat_add]
  refine ⟨Nat.lt_of_le_of_lt (num_le _ _) ?_, Nat.lt_of_le_of_lt (den_le _ _ (den_mul_ne x y)) ?_⟩
  · refine Nat.lt_of_le_of_lt (Int.natAbs_add_le _ _) ?_
    rw [Int.natAbs_mul, Int.natAbs_mul]
    have h1 := mul_lt_pow hx.1 hy.2
    have h2 := mul_lt_pow hy.1 hx.2
    rw [Nat.add_comm l k] at h2
    have e : 2 ^ (k + l + 1) = 2 ^ (k + l) * 2 := Nat.pow_succ ..
    simp only [Int.natAbs_natCast]
    omega
  · rw [natAbs_cast_mul]
    have h1 := mul_lt_pow hx.2 hy.2
    have e : 2 ^ (k + l + 1) = 2 ^ (k + l) * 2 := Nat.pow_succ ..
    omega
theorem sz_neg {k : Nat} {x : Rat} (hx : sz k x) : sz k (-x) := ⟨by simpa using hx.1, by simpa using hx.2⟩
theorem sz_sub {k l : Nat} {x y : Rat} (hx : sz k x) (hy : sz l y) : sz (k + l + 1) (x - y) := by
  rw [Rat.sub_eq_add_neg]; exact sz_add hx (sz_neg hy)
theorem mul_nn {k l : Nat} {x y : Rat} (hx : sz k x) (hy : sz l y) (h : k + l < 8000) : mulOk x.num y.num := mulOk_pow hx.1 hy.1 (by omega)
theorem mul_nd {k l : Nat} {x y : Rat} (hx : sz k x) (hy : sz l y) (h : k + l < 8000) : mulOk x.num (y.den : Int) := mulOk_pow hx.1 (by simpa using hy.2) (by omega)
theorem mul_dd {k l : Nat} {x y : Rat} (hx : sz k x) (hy : sz l y) (h : k + l < 8000) : mulOk (x.den : Int) (y.den : Int) := mulOk_pow (by simpa using hx.2) (by simpa using hy.2) (by omega)
theorem dd_lt {k l : Nat} {x y : Rat} (hx : sz k x) (hy : sz l y) (h : k + l < 8000) : ((x.den : Int) * (y.den : Int)).natAbs < 2 ^ 8000 := by
  rw [natAbs_cast_mul]
  exact Nat.lt_of_lt_of_le (mul_lt_pow hx.2 hy.2) (Nat.pow_le_pow_right (by decide) (by omega))
theorem raw_plus_ok {k l : Nat} {x y : Rat} (hx : sz k x) (hy : sz l y) (h : k + l < 8000) (lh : LH) : F_raw_plus [rD x, rD y] lh = some (.ok (rD (x + y)) lh) := by
  have hyx : l + k < 8000 := by omega
  have := made_ok (x.num * y.den + y.num * x.den) (x.den * y.den : Int) lh (den_mul_ne x y) (dd_lt hx hy h)
  rw [rat_add] at this
  simp only [rD] at this ⊢
  simp [F_raw_plus, D_raw_plus, fnD_ap, gMul_int _ (mul_nd hx hy h), gMul_int _ (mul_nd hy hx hyx), gMul_int _ (mul_dd hx hy h), this]
theorem raw_less_ok {k l : Nat} {x y : Rat} (hx : sz k x) (hy : sz l y) (h : k + l < 8000) (lh : LH) : F_raw_less [rD x, rD y] lh = some (.ok (rD (x - y)) lh) := by
  have hyx : l + k < 8000 := by omega
  have := made_ok (x.num * y.den - y.num * x.den) (x.den * y.den : Int) lh (den_mul_ne x y) (dd_lt hx hy h)
  rw [rat_sub] at this
  simp only [rD] at this ⊢
  simp [F_raw_less, D_raw_less, fnD_ap, gMul_int _ (mul_nd hx hy h), gMul_int _ (mul_nd hy hx hyx), gMul_int _ (mul_dd hx hy h), this]
theorem raw_times_ok {k l : Nat} {x y : Rat} (hx : sz k x) (hy : sz l y) (h : k + l < 8000) (lh : LH) : F_raw_times [rD x, rD y] lh = some (.ok (rD (x * y)) lh) := by
  have := made_ok (x.num * y.num) (x.den * y.den : Int) lh (den_mul_ne x y) (dd_lt hx hy h)
  rw [rat_mul] at this
  simp only [rD] at this ⊢
  simp [F_raw_times, D_raw_times, fnD_ap, gMul_int _ (mul_nn hx hy h), gMul_int _ (mul_dd hx hy h), this]
theorem is_fraction_ok (r : Rat) (h : LH) : F_is_fraction [rD r] h = some (.ok (.bl true) h) := by
  have e := divisor_abs r.num (r.den : Int) h
  have g : Int.gcd r.num (r.den : Int) = 1 := r.reduced
  rw [g] at e
  simp only [Int.natAbs_natCast] at e
  have p : 0 < r.den := Nat.pos_of_ne_zero r.den_nz
  have p2 : ¬ ((r.den : Int) = 0) := by omega
  have p3 : (0 : Int) < (r.den : Int) := by omega
  simp [rD, F_is_fraction, D_is_fraction, fnD_ap, is_fraction_s1, is_fraction_s2, isiB, is_integer_int, e, p3, p]
theorem check_fraction_ok (r : Rat) (h : LH) : F_check_fraction [rD r] h = some (.ok .non h) := by
  simp [F_check_fraction, D_check_fraction, fnD_ap, is_fraction_ok]
theorem plus_ok {k l : Nat} {x y : Rat} (hx : sz k x) (hy : sz l y) (h : k + l < 8000) (lh : LH) : F_plus [rD x, rD y] lh = some (.ok (rD (x + y)) lh) := by
  simp [F_plus, D_plus, fnD_ap, plus_s1, plus_s2, plus_s3, check_fraction_ok, raw_plus_ok hx hy h]
theorem less_ok {k l : Nat} {x y : Rat} (hx : sz k x) (hy : sz l y) (h : k + l < 8000) (lh : LH) : F_less [rD x, rD y] lh = some (.ok (rD (x - y)) lh) := by
  simp [F_less, D_less, fnD_ap, less_s1, less_s2, less_s3, check_fraction_ok, raw_less_ok hx hy h]
theorem times_ok {k l : Nat} {x y : Rat} (hx : sz k x) (hy : sz l y) (h : k + l < 8000) (lh : LH) : F_times [rD x, rD y] lh = some (.ok (rD (x * y)) lh) := by
  simp [F_times, D_times, fnD_ap, times_s1, times_s2, times_s3, check_fraction_ok, raw_times_ok hx hy h]
theorem is_within_int (i a b : Int) (h : LH) : F_is_within [.int i, .int a, .int b] h = some (.ok (.bl (decide (a ≤ i ∧ i ≤ b))) h) := by
  by_cases h1 : a ≤ i <;> by_cases h2 : i ≤ b <;> simp [F_is_within, D_is_within, fnD_ap, is_integer_int, h1, h2]
end KK

namespace KK
open PySem PySem.Spec PyProof.Rows L2 DL
/-! ### names, named pairs, dimensions -/
def isName (z : Str) : Bool := decide (1 ≤ z.length ∧ z.length ≤ 8) && z.cps.toList.all fun c => decide (97 ≤ c ∧ c ≤ 122)
theorem letter_in (c : Nat) (h1 : 97 ≤ c) (h2 : c ≤ 122) (h : LH) : gIn (.str ⟨#[c]⟩) (.str "abcdefghijklmnopqrstuvwxyz") h = some (.bl true, h) := by
  have all : ∀ k : Fin 26, (!(Builtin.Str.occurrences "abcdefghijklmnopqrstuvwxyz" ⟨#[97 + k.val]⟩ 0 (Str.ofString "abcdefghijklmnopqrstuvwxyz").length 1).isEmpty) = true := by decide +kernel
  have := all ⟨c - 97, by omega⟩
  rw [show 97 + (c - 97) = c by omega] at this
  simp only [gIn, inD]
  rw [this]
  rfl
theorem is_name_ok (z : Str) (hz : isName z = true) (h : LH) : F_is_name [.str z] h = some (.ok (.bl true) h) := by
  unfold isName at hz
  simp only [Bool.and_eq_true, decide_eq_true_eq, List.all_eq_true] at hz
  obtain ⟨⟨h1, h2⟩, h3⟩ := hz
  have hl : z.length ≤ 16777216 := by omega
  have e := all_comp (m := iSeq (eV 0)) (own := [1]) (g := Tg.g (.nm 1)) (e := is_name_e1) (δ := [some (.str z), none]) (h := h) (h1 := h) (it := ⟨z.cps.toList.map fun c => .str ⟨#[c]⟩, []⟩) (fun _ => true) rfl (fun _ => ok_nil)
    (fun d hd x => by
      obtain ⟨c, hc, rfl⟩ := List.mem_map.mp hd
      refine ⟨[some (.str z), some (.str ⟨#[c]⟩)], by simp, ?_⟩
      simp [is_name_e1, letter_in c (h3 c hc).1 (h3 c hc).2])
    (by have : z.length = z.cps.size := rfl
        simp; rw [← this]; exact hl)
  have l1 : (1 : Int) ≤ (z.length : Int) := by omega
  have l2 : (z.length : Int) ≤ 8 := by omega
  have l3 : 0 < z.length := by omega
  have gl : gLen [.str z] h = some (.int z.length, h) := by
    unfold gLen; exact if_pos hl
  simp at e
  simp [F_is_name, D_is_name, fnD_ap, isiB, gl, l1, l2, l3, e]

/-- named things as a tuple of pairs -/
def np (l : List (Str × D)) : D := .tup (l.map fun p => .tup [.str p.1, p.2])
def ltS (x y : Str) : Bool := decide (x.cps.toList < y.cps.toList)
def ascB : List Str → Bool
  | x :: y :: r => ltS x y && ascB (y :: r)
  | _ => true
theorem ascB_range : ∀ l : List Str, (List.range (l.length - 1)).all (fun i => match l[i]?, l[i + 1]? with | some x, some y => ltS x y | _, _ => false) = ascB l
  | [] => rfl
  | [x] => rfl
  | x :: y :: r => by
    have ih := ascB_range (y :: r)
    have e : (x :: y :: r).length - 1 = ((y :: r).length - 1) + 1 := by simp
    rw [e, List.range_succ_eq_map, List.all_cons, List.all_map]
    unfold ascB
    rw [← ih]
    rfl
/-- what is asked of a pair -/
def nameP (p : Str × D) : Bool := isName p.1
theorem np_get {l : List (Str × D)} {k : Nat} {p : Str × D} (h : l[k]? = some p) : (l.map fun p => D.tup [.str p.1, p.2])[k]? = some (.tup [.str p.1, p.2]) := by rw [List.getElem?_map, h]; rfl
theorem named_ok (l : List (Str × D)) (hn : ∀ p ∈ l, isName p.1 = true) (hz : l.length ≤ 1000) (h : LH) : F_are_named_pairs [np l] h = some (.ok (.bl (ascB (l.map (·.1)))) h) := by
  have hz2 : l.length ≤ sizeLine := Nat.le_trans hz (by decide)
  have e1 := all_comp (m := iSeq (eV 0)) (own := [1]) (g := Tg.g (.nm 1)) (e := are_named_pairs_e1) (δ := [some (np l), none, none]) (h := h) (h1 := h) (it := ⟨l.map fun p => .tup [.str p.1, p.2], []⟩) (fun _ => true) rfl (fun _ => ok_nil)
    (fun d hd x => by
      obtain ⟨p, hp, rfl⟩ := List.mem_map.mp hd
      refine ⟨[some (np l), some (.tup [.str p.1, p.2]), none], by simp, ?_⟩
      simp [are_named_pairs_e1, isiB, is_name_ok _ (hn p hp)])
    (by simpa using hz2)
  generalize hg : h ++ [LO.lst (List.map (fun _ => D.bl true) (List.map (fun p => D.tup [D.str p.1, p.2]) l))] = h2 at e1
  have e2 := all_comp (m := (iRng (fun δ h => bnd ((aCons (eBin gSub (eCall gLen (aCons (eV 0) (aNil))) (eC (.int 1))) (aNil)) δ h) fun ds h1 => if ds.length = 1 then some (.ok ds h1) else none))) (own := [2]) (g := Tg.g (.nm 2)) (e := are_named_pairs_e2) (δ := [some (np l), none, none]) (h := h2) (h1 := h2)
    (it := ⟨rgD 0 ((l.length : Int) - 1), []⟩) (fun d => match d with | .int i => (match l[i.toNat]?, l[i.toNat + 1]? with | some x, some y => ltS x.1 y.1 | _, _ => false) | _ => false)
    (iRng_1 (by simp [np]) (by unfold DL.inR; omega)) (fun _ => ok_nil)
    (fun d hd x => by
      obtain ⟨k, rfl, hk⟩ := mem_rgD hd
      have k1 : k < l.length := by omega
      have k2 : k + 1 < l.length := by omega
      have g1 := np_get (List.getElem?_eq_getElem k1)
      have g2 := np_get (List.getElem?_eq_getElem k2)
      refine ⟨[some (np l), none, some (.int (0 + k))], by simp, ?_⟩
      have a1 : atI (l.map fun p => D.tup [.str p.1, p.2]) (k : Int) = some (.tup [.str l[k].1, l[k].2]) := by rw [atI_lit]; exact g1
      have a2 : atI (l.map fun p => D.tup [.str p.1, p.2]) ((k : Int) + 1) = some (.tup [.str l[k + 1].1, l[k + 1].2]) := by rw [show (k : Int) + 1 = ((k + 1 : Nat) : Int) by omega, atI_lit]; exact g2
      simp [are_named_pairs_e2, np, a1, a2, List.getElem?_eq_getElem k1, List.getElem?_eq_getElem k2, ltS])
    (by rw [rgD_len]; omega)
  have e3 : ((rgD 0 ((l.length : Int) - 1)).all (fun d => match d with | .int i => (match l[i.toNat]?, l[i.toNat + 1]? with | some x, some y => ltS x.1 y.1 | _, _ => false) | _ => false)) = ascB (l.map (·.1)) := by
    rw [← ascB_range]
    unfold rgD
    rw [List.all_map, List.length_map]
    have : ((l.length : Int) - 1 - 0).toNat = l.length - 1 := by omega
    rw [this]
    congr 1
    funext i
    simp only [Function.comp, Int.zero_add, Int.toNat_natCast, List.getElem?_map]
    cases l[i]? <;> cases l[i + 1]? <;> rfl
  have s1 : are_named_pairs_s1 [some (np l), none, none] h = some (.nx [some (np l), none, none] h) := by simp [are_named_pairs_s1, np, isiB]
  have s2 : are_named_pairs_s2 [some (np l), none, none] h = some (.nx [some (np l), none, none] h2) := by
    unfold are_named_pairs_s2
    rw [sIf_ap, tNot_ap, tV_ap, e1]
    simp
  obtain ⟨g3, s3⟩ : ∃ g3, are_named_pairs_s3 [some (np l), none, none] h2 = some (.rt (.bl (ascB (l.map (·.1)))) (h2 ++ [g3])) := by
    unfold are_named_pairs_s3
    rw [sRet_ap, e2]
    simp only [e3]
    exact ⟨_, rfl⟩
  refine (fnD_eq _ _ _ _ (r := some (.rt (.bl (ascB (l.map (·.1)))) (h2 ++ [g3]))) ?_).trans ?_
  · exact (show D_are_named_pairs [some (np l), none, none] h = _ from (seq_nx s1).trans ((seq_nx s2).trans s3))
  · rw [← hg]; simp
/-- whole numbers under names -/
def dp (l : List (Str × Int)) : D := np (l.map fun p => (p.1, .int p.2))
structure IsDim (l : List (Str × Int)) : Prop where
  nm : ∀ p ∈ l, isName p.1 = true
  asc : ascB (l.map (·.1)) = true
  nz : ∀ p ∈ l, p.2 ≠ 0
  few : l.length ≤ 1000
theorem is_dimension_ok {l : List (Str × Int)} (I : IsDim l) (h : LH) : F_is_dimension [dp l] h = some (.ok (.bl true) h) := by
  have e0 := named_ok (l.map fun p => (p.1, D.int p.2)) (fun p hp => by obtain ⟨q, hq, rfl⟩ := List.mem_map.mp hp; exact I.nm q hq) (by simpa using I.few) h
  have a : ascB (List.map (fun x => x.fst) (List.map (fun p : Str × Int => (p.fst, D.int p.snd)) l)) = true := by rw [List.map_map]; exact I.asc
  rw [a] at e0
  have e1 := all_comp (m := iSeq (eV 0)) (own := [1, 2]) (g := Tg.g (.tup ((.nm 1) :: (.nm 2) :: []))) (e := is_dimension_e1) (δ := [some (dp l), none, none]) (h := h) (h1 := h) (it := ⟨(l.map fun p => (p.1, D.int p.2)).map fun p => .tup [.str p.1, p.2], []⟩) (fun _ => true) rfl (fun _ => ok_nil)
    (fun d hd x => by
      rw [List.map_map] at hd
      obtain ⟨p, hp, rfl⟩ := List.mem_map.mp hd
      refine ⟨[some (dp l), some (.str p.1), some (.int p.2)], by simp, ?_⟩
      have := I.nz p hp
      simp [is_dimension_e1, is_integer_int, this])
    (by simpa using Nat.le_trans I.few (by decide))
  have e0' : F_are_named_pairs [dp l] h = some (.ok (.bl true) h) := e0
  simp at e1
  simp [F_is_dimension, D_is_dimension, fnD_ap, e0', e1]
theorem check_dimension_ok {l : List (Str × Int)} (I : IsDim l) (h : LH) : F_check_dimension [dp l] h = some (.ok .non h) := by
  simp [F_check_dimension, D_check_dimension, fnD_ap, is_dimension_ok I]
end KK

namespace KK
open PySem PySem.Spec PyProof.Rows L2 DL
/-! ### order of names -/
theorem ltS_trans {x y z : Str} (h : ltS x y = true) (k : ltS y z = true) : ltS x z = true := by
  unfold ltS at *
  exact decide_eq_true (List.lt_trans (of_decide_eq_true h) (of_decide_eq_true k))
theorem ltS_irrefl (x : Str) : ltS x x = false := by
  unfold ltS
  exact decide_eq_false (List.lt_irrefl _)
theorem ascB_pw : ∀ {l : List Str}, ascB l = true ↔ l.Pairwise (fun x y => ltS x y = true)
  | [] => by simp [ascB]
  | [x] => by simp [ascB]
  | x :: y :: r => by
    have ih := ascB_pw (l := y :: r)
    unfold ascB
    rw [Bool.and_eq_true, ih, List.pairwise_cons (a := x)]
    constructor
    · rintro ⟨h1, h2⟩
      refine ⟨fun z hz => ?_, h2⟩
      rcases List.mem_cons.mp hz with rfl | hz
      · exact h1
      · exact ltS_trans h1 ((List.pairwise_cons.mp h2).1 z hz)
    · rintro ⟨h1, h2⟩
      exact ⟨h1 y List.mem_cons_self, h2⟩
theorem ascB_nodup {l : List Str} (h : ascB l = true) : l.Nodup := by
  refine (ascB_pw.mp h).imp fun {x y} k e => ?_
  subst e
  rw [ltS_irrefl] at k
  cases k
/-! ### weights -/
def wp (l : List (Str × Rat)) : D := np (l.map fun p => (p.1, rD p.2))
structure IsW (l : List (Str × Rat)) : Prop where
  nm : ∀ p ∈ l, isName p.1 = true
  asc : ascB (l.map (·.1)) = true
  nz : ∀ p ∈ l, p.2 ≠ 0
  few : l.length ≤ 1000
theorem num_ne {r : Rat} (h : r ≠ 0) : r.num ≠ 0 := fun e => h (Rat.num_eq_zero.mp e)
theorem are_weights_ok {l : List (Str × Rat)} (I : IsW l) (h : LH) : F_are_weights [wp l] h = some (.ok (.bl true) h) := by
  have e0 := named_ok (l.map fun p => (p.1, rD p.2)) (fun p hp => by obtain ⟨q, hq, rfl⟩ := List.mem_map.mp hp; exact I.nm q hq) (by simpa using I.few) h
  have a : ascB (List.map (fun x => x.fst) (List.map (fun p : Str × Rat => (p.fst, rD p.snd)) l)) = true := by rw [List.map_map]; exact I.asc
  rw [a] at e0
  have e1 := all_comp (m := iSeq (eV 0)) (own := [1, 2]) (g := Tg.g (.tup ((.nm 1) :: (.nm 2) :: []))) (e := are_weights_e1) (δ := [some (wp l), none, none]) (h := h) (h1 := h) (it := ⟨(l.map fun p => (p.1, rD p.2)).map fun p => .tup [.str p.1, p.2], []⟩) (fun _ => true) rfl (fun _ => ok_nil)
    (fun d hd x => by
      rw [List.map_map] at hd
      obtain ⟨p, hp, rfl⟩ := List.mem_map.mp hd
      refine ⟨[some (wp l), some (.str p.1), some (rD p.2)], by simp, ?_⟩
      have := num_ne (I.nz p hp)
      have e : gIx (rD p.2) (.int 0) (h ++ [x]) = some (.int p.2.num, h ++ [x]) := rfl
      simp [are_weights_e1, is_fraction_ok, e, this])
    (by simpa using Nat.le_trans I.few (by decide))
  have e0' : F_are_named_pairs [wp l] h = some (.ok (.bl true) h) := e0
  simp at e1
  simp [F_are_weights, D_are_weights, fnD_ap, e0', e1]
def wOf (l : List (Str × Rat)) (b : Str) : Rat := (lk l b).getD 0
def wsum (w : Str → Rat) : List (Str × Int) → Rat
  | [] => 0
  | p :: r => w p.1 * (p.2 : Rat) + wsum w r
theorem rD_int (n : Int) : rD (n : Rat) = .tup [.int n, .int 1] := rfl
theorem rD_zero : rD 0 = .tup [.int 0, .int 1] := rfl
theorem sz_int {n : Int} {k : Nat} (h : n.natAbs < 2 ^ (k + 1)) : sz (k + 1) (n : Rat) := ⟨h, by
  show 1 < 2 ^ (k + 1)
  have := Nat.pow_le_pow_right (n := 2) (by decide) (show 1 ≤ k + 1 by omega)
  omega⟩
theorem sz_zero (k : Nat) : sz (k + 1) 0 := sz_int (n := 0) (by simp; exact Nat.pos_of_ne_zero (by simp))
theorem lk_mem {α : Type} {l : List (Str × α)} {b : Str} {x : α} (h : lk l b = some x) : (b, x) ∈ l := by
  unfold lk at h
  cases q : l.find? (fun p => decide (p.1 = b)) with
  | none => rw [q] at h; cases h
  | some p =>
    rw [q] at h
    cases h
    have h1 := List.find?_some q
    have h2 := List.mem_of_find?_eq_some q
    have : p.1 = b := of_decide_eq_true h1
    rw [← this]
    exact h2
theorem sz_wOf {a : Nat} {l : List (Str × Rat)} (h : ∀ p ∈ l, sz (a + 1) p.2) (b : Str) : sz (a + 1) (wOf l b) := by
  unfold wOf
  cases q : lk l b with
  | none => exact sz_zero a
  | some x => exact h _ (lk_mem q)
theorem items_dp (l : List (Str × Int)) : ((l.map fun p => (p.1, D.int p.2)).map fun p : Str × D => D.tup [.str p.1, p.2]) = l.map fun p => .tup [.str p.1, .int p.2] := by rw [List.map_map]; rfl
theorem raw_weighs_ok {a b : Nat} {wl : List (Str × Rat)} {dl : List (Str × Int)} (W : IsW wl) (hw : ∀ p ∈ wl, sz (a + 1) p.2) (hd : ∀ p ∈ dl, p.2.natAbs < 2 ^ (b + 1)) (hs : 1 + dl.length * (a + b + 3) < 7000) (h : LH) :
    F_raw_weighs [wp wl, dp dl] h = some (.ok (rD (wsum (wOf wl) dl)) h) := by
  have hk : (wl.map (·.1)).Nodup := ascB_nodup W.asc
  have e1 : raw_weighs_s1 [some (wp wl), some (dp dl), none, none, none, none] h = some (.nx [some (wp wl), some (dp dl), some (.ref h.length), some (rD 0), none, none] (h ++ [.dic (wl.map fun p => (.inr p.1, rD p.2))])) := by
    have := gDict_np rD hk h
    simp [raw_weighs_s1, wp, np, rD_zero]
    simp at this
    simp [this]
  generalize hh : h ++ [LO.dic (wl.map fun p => (.inr p.1, rD p.2))] = h1 at e1
  have hi : h1[h.length]? = some (.dic (wl.map fun p => (.inr p.1, rD p.2))) := by rw [← hh]; simp
  have loop : ∀ (l : List (Str × Int)) (found : Rat) (m : Nat) (x y : Option D), (∀ p ∈ l, p.2.natAbs < 2 ^ (b + 1)) → sz m found → m + l.length * (a + b + 3) < 7000 →
      ∃ x' y', forL ⟨dl.map fun p => .tup [.str p.1, .int p.2], []⟩ (gTup [gN 4, gN 5]) raw_weighs_b1 (l.map fun p => .tup [.str p.1, .int p.2]) [some (wp wl), some (dp dl), some (.ref h.length), some (rD found), x, y] h1 =
        some (.nx [some (wp wl), some (dp dl), some (.ref h.length), some (rD (found + wsum (wOf wl) l)), x', y'] h1) := by
    intro l
    induction l with
    | nil => intro found m x y _ _ _; exact ⟨x, y, by simp [forL, wsum, Rat.add_zero]⟩
    | cons p l ih =>
      intro found m x y hd hf hm
      rw [List.length_cons, Nat.succ_mul] at hm
      have sw := sz_wOf hw p.1
      have si : sz (b + 1) (p.2 : Rat) := sz_int (hd p List.mem_cons_self)
      have t1 := raw_times_ok sw si (by omega) h1
      have st := sz_mul sw si
      have t2 := raw_plus_ok hf st (by omega) h1
      have sf := sz_add hf st
      obtain ⟨x', y', ih⟩ := ih (found + wOf wl p.1 * (p.2 : Rat)) (m + (a + 1 + (b + 1)) + 1) (some (.str p.1)) (some (.int p.2)) (fun q hq => hd q (List.mem_cons_of_mem _ hq)) sf (by omega)
      refine ⟨x', y', ?_⟩
      rw [List.map_cons]
      unfold forL
      have g : eGet2 (eV 2) (eV 4) (eC (.tup [.int 0, .int 1])) [some (wp wl), some (dp dl), some (.ref h.length), some (rD found), some (.str p.1), some (.int p.2)] h1 = some (.ok (rD (wOf wl p.1)) h1) := by
        rw [eGet2_ok (i := h.length) rfl hi rfl rfl rfl, valD_map rD p.1 wl]
        unfold wOf
        cases lk wl p.1 <;> rfl
      rw [rD_int] at t1
      simp [raw_weighs_b1, g, t1, t2, ok_nil]
      rw [wsum, ← Rat.add_assoc]
      exact ih
  obtain ⟨x', y', e2⟩ := loop dl 0 1 none none hd (sz_zero 0) hs
  have s2 : raw_weighs_s2 [some (wp wl), some (dp dl), some (.ref h.length), some (rD 0), none, none] h1 = some (.nx [some (wp wl), some (dp dl), some (.ref h.length), some (rD (wsum (wOf wl) dl)), x', y'] h1) := by
    rw [Rat.zero_add] at e2
    unfold raw_weighs_s2
    rw [sFor_ap, iSeq_ap]
    have : eV 1 [some (wp wl), some (dp dl), some (.ref h.length), some (rD 0), none, none] h1 = some (.ok (.tup (dl.map fun p => .tup [.str p.1, .int p.2])) h1) := by
      rw [eV_1, dp, np, items_dp]
    rw [this]
    exact e2
  refine (fnD_eq _ _ _ _ (r := some (.rt (rD (wsum (wOf wl) dl)) h1)) ?_).trans ?_
  · exact (show D_raw_weighs [some (wp wl), some (dp dl), none, none, none, none] h = _ from (seq_nx e1).trans ((seq_nx s2).trans (by simp [raw_weighs_s3])))
  · rw [← hh, toR_rt]; exact gc_new rfl
theorem weighs_ok {a b : Nat} {wl : List (Str × Rat)} {dl : List (Str × Int)} (W : IsW wl) (I : IsDim dl) (hw : ∀ p ∈ wl, sz (a + 1) p.2) (hd : ∀ p ∈ dl, p.2.natAbs < 2 ^ (b + 1)) (hs : 1 + dl.length * (a + b + 3) < 7000) (h : LH) :
    F_weighs [wp wl, dp dl] h = some (.ok (rD (wsum (wOf wl) dl)) h) := by
  simp [F_weighs, D_weighs, fnD_ap, weighs_s1, weighs_s2, weighs_s3, are_weights_ok W, check_dimension_ok I, raw_weighs_ok W hw hd hs]
end KK

namespace KK
open PySem PySem.Spec PyProof.Rows L2 DL
/-! ### the law's own fractions -/
theorem low_loop (A B : Option D) (h : LH) : ∀ (y x : Nat) (z : Option D), ∃ z', sWh law_low_c1 law_low_b1 [A, B, some (.int x), some (.int y), z] h = some (.nx [A, B, some (.int (Nat.gcd x y)), some (.int 0), z'] h) := by
  intro y
  induction y using Nat.strongRecOn with
  | _ y ih =>
    intro x z
    by_cases h0 : y = 0
    · subst h0
      exact ⟨z, by rw [wh_stop (h1 := h) (by simp [law_low_c1])]; simp⟩
    · have hy : (y : Int) ≠ 0 := by omega
      have hy2 : 0 < y := by omega
      have e : ((x : Int).fmod (y : Int)) = ((x % y : Nat) : Int) := by
        rw [Int.fmod_eq_emod_of_nonneg _ (by omega)]; rfl
      have lt : x % y < y := Nat.mod_lt _ (by omega)
      obtain ⟨z', this⟩ := ih (x % y) lt y (some (.int ((x % y : Nat) : Int)))
      have g : Nat.gcd x y = Nat.gcd y (x % y) := by rw [Nat.gcd_comm x y, Nat.gcd_rec y x, Nat.gcd_comm]
      refine ⟨z', ?_⟩
      rw [wh_nx (h1 := h) (δ2 := [A, B, some (.int y), some (.int ((x % y : Nat) : Int)), some (.int ((x % y : Nat) : Int))]) (h2 := h) (by simp [law_low_c1, hy2]) (by simp [law_low_b1, law_low_s6, law_low_s7, law_low_s8, gMod_int _ hy, e]), g]
      exact this
theorem law_low_ok (a b : Int) (h : LH) (hb : b ≠ 0) (hs : b.natAbs < 2 ^ 8000) : F_law_low [.int a, .int b] h = some (.ok (rD (Rat.divInt a b)) h) := by
  obtain ⟨e1, e2⟩ := made_val a b hb
  have d1 := fun x => gcd_div_ok a b x hb hs
  obtain ⟨z', e3⟩ := low_loop (some (.int a)) (some (.int b)) h b.natAbs a.natAbs none
  have e4 : Nat.gcd a.natAbs b.natAbs = Int.gcd a b := rfl
  rw [e4] at e3
  rw [rD, ← e1, ← e2]
  by_cases hn : b < 0
  · simp only [if_pos hn] at d1 ⊢
    simp [F_law_low, D_law_low, fnD_ap, law_low_s1, law_low_s2, law_low_s3, law_low_s4, law_low_s5, e3, hn, gFdiv_int _ (d1 _)]
  · simp only [if_neg hn] at d1 ⊢
    simp [F_law_low, D_law_low, fnD_ap, law_low_s1, law_low_s2, law_low_s3, law_low_s4, law_low_s5, e3, hn, gFdiv_int _ (d1 _)]
theorem rat_fma (f s : Rat) (n : Int) : Rat.divInt (f.num * s.den + n * s.num * f.den) (f.den * s.den : Int) = f + s * (n : Rat) := by
  have h1 := Rat.num_divInt_den f
  have h2 := Rat.num_divInt_den s
  have h3 : s * (n : Rat) = Rat.divInt (n * s.num) s.den := by
    conv => lhs; rw [← h2]
    rw [show (n : Rat) = Rat.divInt n 1 from (Rat.num_divInt_den (n : Rat)).symm, Rat.divInt_mul_divInt, Int.mul_one, Int.mul_comm]
  rw [h3]
  conv => rhs; rw [← h1]
  rw [Rat.divInt_add_divInt _ _ (den_ne f) (den_ne s)]
theorem law_weighed_ok {a b : Nat} {wl : List (Str × Rat)} {dl : List (Str × Int)} (W : IsW wl) (hw : ∀ p ∈ wl, sz (a + 1) p.2) (hd : ∀ p ∈ dl, p.2.natAbs < 2 ^ (b + 1)) (hs : 1 + dl.length * (a + b + 3) < 7000) (h : LH) :
    F_law_weighed [wp wl, dp dl] h = some (.ok (rD (wsum (wOf wl) dl)) h) := by
  have hk : (wl.map (·.1)).Nodup := ascB_nodup W.asc
  have e1 : law_weighed_s1 [some (wp wl), some (dp dl), none, none, none, none, none] h = some (.nx [some (wp wl), some (dp dl), some (.ref h.length), none, none, none, none] (h ++ [.dic (wl.map fun p => (.inr p.1, rD p.2))])) := by
    have := gDict_np rD hk h
    simp [law_weighed_s1, wp, np]
    simp at this
    simp [this]
  generalize hh : h ++ [LO.dic (wl.map fun p => (.inr p.1, rD p.2))] = h1 at e1
  have hi : h1[h.length]? = some (.dic (wl.map fun p => (.inr p.1, rD p.2))) := by rw [← hh]; simp
  have loop : ∀ (l : List (Str × Int)) (found : Rat) (m : Nat) (x y z : Option D), (∀ p ∈ l, p.2.natAbs < 2 ^ (b + 1)) → sz m found → m + l.length * (a + b + 3) < 7000 →
      ∃ x' y' z', forL ⟨dl.map fun p => .tup [.str p.1, .int p.2], []⟩ (gTup [gN 4, gN 5]) law_weighed_b1 (l.map fun p => .tup [.str p.1, .int p.2]) [some (wp wl), some (dp dl), some (.ref h.length), some (rD found), x, y, z] h1 =
        some (.nx [some (wp wl), some (dp dl), some (.ref h.length), some (rD (found + wsum (wOf wl) l)), x', y', z'] h1) := by
    intro l
    induction l with
    | nil => intro found m x y z _ _ _; exact ⟨x, y, z, by simp [forL, wsum, Rat.add_zero]⟩
    | cons p l ih =>
      intro found m x y z hd hf hm
      rw [List.length_cons, Nat.succ_mul] at hm
      have sw := sz_wOf hw p.1
      have si : sz (b + 1) (p.2 : Rat) := sz_int (hd p List.mem_cons_self)
      have st := sz_mul sw si
      have sf := sz_add hf st
      obtain ⟨x', y', z', ih⟩ := ih (found + wOf wl p.1 * (p.2 : Rat)) (m + (a + 1 + (b + 1)) + 1) (some (.str p.1)) (some (.int p.2)) (some (rD (wOf wl p.1))) (fun q hq => hd q (List.mem_cons_of_mem _ hq)) sf (by omega)
      refine ⟨x', y', z', ?_⟩
      rw [List.map_cons]
      have g : eGet2 (eV 2) (eV 4) (eTup (aCons (eC (.int 0)) (aCons (eC (.int 1)) aNil))) [some (wp wl), some (dp dl), some (.ref h.length), some (rD found), some (.str p.1), some (.int p.2), z] h1 = some (.ok (rD (wOf wl p.1)) h1) := by
        rw [eGet2_ok (i := h.length) (x := .tup [.int 0, .int 1]) rfl hi rfl rfl (by simp), valD_map rD p.1 wl]
        unfold wOf
        cases lk wl p.1 <;> rfl
      generalize hs' : wOf wl p.1 = s at *
      have l1 := law_low_ok (found.num * s.den + p.2 * s.num * found.den) (found.den * s.den : Int) h1 (den_mul_ne found s) (dd_lt hf sw (by omega))
      rw [rat_fma] at l1
      have m1 := mul_nd hf sw (by omega)
      have m2 : mulOk p.2 s.num := mul_nn si sw (by omega)
      have m3 : mulOk (p.2 * s.num) (found.den : Int) := by
        refine mulOk_pow (k := b + 1 + (a + 1)) (l := m) ?_ (by simpa using hf.2) (by omega)
        rw [Int.natAbs_mul]
        exact mul_lt_pow (hd p List.mem_cons_self) sw.1
      have m4 := mul_dd hf sw (by omega)
      have i1 : ∀ (r : Rat) (h : LH), gIx (rD r) (.int 0) h = some (.int r.num, h) := fun _ _ => rfl
      have i2 : ∀ (r : Rat) (h : LH), gIx (rD r) (.int 1) h = some (.int (r.den : Int), h) := fun _ _ => rfl
      rw [forL_nx (δ1 := [some (wp wl), some (dp dl), some (.ref h.length), some (rD found), some (.str p.1), some (.int p.2), z]) (h1 := h1) (δ2 := [some (wp wl), some (dp dl), some (.ref h.length), some (rD (found + s * (p.2 : Rat))), some (.str p.1), some (.int p.2), some (rD s)]) (h2 := h1) (by simp)
        (by simp [law_weighed_b1, law_weighed_s5, law_weighed_s6, g, ok_nil, i1, i2, gMul_int _ m1, gMul_int _ m2, gMul_int _ m3, gMul_int _ m4, l1]) ok_nil]
      rw [wsum, hs', ← Rat.add_assoc]
      exact ih
  obtain ⟨x', y', z', e2⟩ := loop dl 0 1 none none none hd (sz_zero 0) hs
  have s3 : law_weighed_s3 [some (wp wl), some (dp dl), some (.ref h.length), some (rD 0), none, none, none] h1 = some (.nx [some (wp wl), some (dp dl), some (.ref h.length), some (rD (wsum (wOf wl) dl)), x', y', z'] h1) := by
    rw [Rat.zero_add] at e2
    unfold law_weighed_s3
    rw [sFor_ap, iSeq_ap]
    have : eV 1 [some (wp wl), some (dp dl), some (.ref h.length), some (rD 0), none, none, none] h1 = some (.ok (.tup (dl.map fun p => .tup [.str p.1, .int p.2])) h1) := by
      rw [eV_1, dp, np, items_dp]
    rw [this]
    exact e2
  have s2 : law_weighed_s2 [some (wp wl), some (dp dl), some (.ref h.length), none, none, none, none] h1 = some (.nx [some (wp wl), some (dp dl), some (.ref h.length), some (rD 0), none, none, none] h1) := by
    simp [law_weighed_s2, rD_zero]
  refine (fnD_eq _ _ _ _ (r := some (.rt (rD (wsum (wOf wl) dl)) h1)) ?_).trans ?_
  · exact (show D_law_weighed [some (wp wl), some (dp dl), none, none, none, none, none] h = _ from (seq_nx e1).trans ((seq_nx s2).trans ((seq_nx s3).trans (by simp [law_weighed_s4]))))
  · rw [← hh, toR_rt]; exact gc_new rfl
end KK

namespace KK
open PySem PySem.Spec PyProof.Rows L2 DL
/-! ### dimensions put together -/
def putS (m : List (Str × Int)) (b : Str) (v : Int) : List (Str × Int) := if (m.any fun p => decide (p.1 = b)) = true then m.map fun p => if p.1 = b then (p.1, v) else p else m ++ [(b, v)]
def getS (m : List (Str × Int)) (b : Str) : Int := (lk m b).getD 0
def addAll (s : Int) (m : List (Str × Int)) : List (Str × Int) → List (Str × Int)
  | [] => m
  | p :: r => addAll s (putS m p.1 (getS m p.1 + s * p.2)) r
def kd (m : List (Str × Int)) : List (Key × D) := m.map fun p => (.inr p.1, .int p.2)
theorem putD_kd (m : List (Str × Int)) (b : Str) (v : Int) : putD (kd m) (.inr b) (.int v) = kd (putS m b v) := by
  unfold putD putS kd
  rw [List.any_map]
  have e : ((fun kv : Key × D => decide (kv.1 = .inr b)) ∘ fun p : Str × Int => ((.inr p.1 : Key), D.int p.2)) = fun p => decide (p.1 = b) := by
    funext p; simp
  rw [e]
  split
  · rw [List.map_map, List.map_map]
    refine List.map_congr_left fun p _ => ?_
    by_cases h : p.1 = b
    · simp [h]
    · simp [h]
  · simp
theorem putS_keys (m : List (Str × Int)) (b : Str) (v : Int) : (putS m b v).map (·.1) = if b ∈ m.map (·.1) then m.map (·.1) else m.map (·.1) ++ [b] := by
  unfold putS
  have e : ((m.any fun p => decide (p.1 = b)) = true) ↔ b ∈ m.map (·.1) := by
    simp only [List.any_eq_true, decide_eq_true_eq, List.mem_map]
  by_cases h : b ∈ m.map (·.1)
  · rw [if_pos (e.mpr h), if_pos h, List.map_map]
    refine List.map_congr_left fun p _ => ?_
    by_cases q : p.1 = b <;> simp [q]
  · rw [if_neg (fun z => h (e.mp z)), if_neg h]
    simp
theorem putS_nodup {m : List (Str × Int)} {b : Str} {v : Int} (h : (m.map (·.1)).Nodup) : ((putS m b v).map (·.1)).Nodup := by
  rw [putS_keys]
  split
  · exact h
  · rename_i hb
    rw [List.nodup_append]
    exact ⟨h, by simp, fun a ha c hc e => by simp at hc; subst hc; subst e; exact hb ha⟩
theorem wsum_append (w : Str → Rat) : ∀ a b, wsum w (a ++ b) = wsum w a + wsum w b
  | [], b => by rw [List.nil_append]; show wsum w b = 0 + wsum w b; rw [Rat.zero_add]
  | p :: a, b => by
    show w p.1 * (p.2 : Rat) + wsum w (a ++ b) = (w p.1 * (p.2 : Rat) + wsum w a) + wsum w b
    rw [wsum_append w a b, Rat.add_assoc]
theorem lk_cons {α : Type} (p : Str × α) (m : List (Str × α)) (b : Str) : lk (p :: m) b = if p.1 = b then some p.2 else lk m b := by
  unfold lk
  rw [List.find?_cons]
  by_cases h : p.1 = b
  · simp [h]
  · simp [h]
theorem getS_cons (p : Str × Int) (m : List (Str × Int)) (b : Str) : getS (p :: m) b = if p.1 = b then p.2 else getS m b := by
  unfold getS
  rw [lk_cons]
  split <;> rfl
theorem getS_none {m : List (Str × Int)} {b : Str} (h : b ∉ m.map (·.1)) : getS m b = 0 := by
  unfold getS
  cases q : lk m b with
  | none => rfl
  | some x => exact absurd (List.mem_map_of_mem (f := (·.1)) (lk_mem q)) h
theorem wsum_map_put (w : Str → Rat) (b : Str) (v : Int) : ∀ m : List (Str × Int), (m.map (·.1)).Nodup → b ∈ m.map (·.1) →
    wsum w (m.map fun p => if p.1 = b then (p.1, getS m b + v) else p) = wsum w m + w b * (v : Rat)
  | [], _, h => by simp at h
  | p :: m, hn, hb => by
    rw [List.map_cons, List.nodup_cons] at hn
    rw [List.map_cons]
    by_cases e : p.1 = b
    · have hnot : b ∉ m.map (·.1) := by rw [← e]; exact hn.1
      have same : (m.map fun q => if q.1 = b then (q.1, getS (p :: m) b + v) else q) = m := by
        conv => rhs; rw [← List.map_id m]
        refine List.map_congr_left fun q hq => ?_
        have : q.1 ≠ b := fun z => hnot (z ▸ List.mem_map_of_mem (f := (·.1)) hq)
        simp [this]
      rw [same, getS_cons, if_pos e, if_pos e]
      show w p.1 * ((p.2 + v : Int) : Rat) + wsum w m = (w p.1 * (p.2 : Rat) + wsum w m) + w b * (v : Rat)
      rw [← e, Rat.intCast_add]
      grind
    · have hb2 : b ∈ m.map (·.1) := by
        rw [List.map_cons, List.mem_cons] at hb
        rcases hb with q | q
        · exact absurd q.symm e
        · exact q
      have ih := wsum_map_put w b v m hn.2 hb2
      rw [if_neg e, getS_cons, if_neg e]
      show w p.1 * (p.2 : Rat) + wsum w (m.map _) = (w p.1 * (p.2 : Rat) + wsum w m) + w b * (v : Rat)
      rw [ih]
      grind
theorem wsum_put (w : Str → Rat) {m : List (Str × Int)} (hn : (m.map (·.1)).Nodup) (b : Str) (v : Int) : wsum w (putS m b (getS m b + v)) = wsum w m + w b * (v : Rat) := by
  unfold putS
  have e : ((m.any fun p => decide (p.1 = b)) = true) ↔ b ∈ m.map (·.1) := by
    simp only [List.any_eq_true, decide_eq_true_eq, List.mem_map]
  by_cases h : b ∈ m.map (·.1)
  · rw [if_pos (e.mpr h)]
    exact wsum_map_put w b v m hn h
  · rw [if_neg (fun z => h (e.mp z)), wsum_append, getS_none h, Int.zero_add]
    show wsum w m + (w b * (v : Rat) + 0) = _
    rw [Rat.add_zero]
theorem addAll_nodup (s : Int) : ∀ (r m : List (Str × Int)), (m.map (·.1)).Nodup → ((addAll s m r).map (·.1)).Nodup
  | [], m, h => h
  | p :: r, m, h => addAll_nodup s r _ (putS_nodup h)
theorem addAll_wsum (w : Str → Rat) (s : Int) : ∀ (r m : List (Str × Int)), (m.map (·.1)).Nodup → wsum w (addAll s m r) = wsum w m + (s : Rat) * wsum w r
  | [], m, h => by show wsum w m = wsum w m + (s : Rat) * 0; rw [Rat.mul_zero, Rat.add_zero]
  | p :: r, m, h => by
    show wsum w (addAll s (putS m p.1 (getS m p.1 + s * p.2)) r) = wsum w m + (s : Rat) * (w p.1 * (p.2 : Rat) + wsum w r)
    rw [addAll_wsum w s r _ (putS_nodup h), wsum_put w h, Rat.intCast_mul]
    grind
theorem addAll_mem (s : Int) : ∀ (r m : List (Str × Int)) (b : Str), b ∈ (addAll s m r).map (·.1) → b ∈ m.map (·.1) ∨ b ∈ r.map (·.1)
  | [], m, b, h => .inl h
  | p :: r, m, b, h => by
    rcases addAll_mem s r _ b h with h | h
    · rw [putS_keys] at h
      split at h
      · exact .inl h
      · rw [List.mem_append] at h
        rcases h with h | h
        · exact .inl h
        · simp at h; subst h; exact .inr (by simp)
    · exact .inr (by rw [List.map_cons]; exact List.mem_cons_of_mem _ h)
theorem putS_len (m : List (Str × Int)) (b : Str) (v : Int) : (putS m b v).length ≤ m.length + 1 := by
  unfold putS
  split <;> simp
theorem addAll_len (s : Int) : ∀ (r m : List (Str × Int)), (addAll s m r).length ≤ m.length + r.length
  | [], m => by simp [addAll]
  | p :: r, m => by
    have h1 := addAll_len s r (putS m p.1 (getS m p.1 + s * p.2))
    have h2 := putS_len m p.1 (getS m p.1 + s * p.2)
    show (addAll s _ r).length ≤ _
    rw [List.length_cons]; omega
theorem getS_small {k : Nat} {m : List (Str × Int)} (h : ∀ p ∈ m, p.2.natAbs < 2 ^ k) (b : Str) : (getS m b).natAbs < 2 ^ k := by
  unfold getS
  cases q : lk m b with
  | none => exact Nat.pow_pos (by decide)
  | some x => exact h _ (lk_mem q)
theorem putS_small {k : Nat} {m : List (Str × Int)} {b : Str} {v : Int} (h : ∀ p ∈ m, p.2.natAbs < 2 ^ k) (hv : v.natAbs < 2 ^ k) : ∀ p ∈ putS m b v, p.2.natAbs < 2 ^ k := by
  unfold putS
  split
  · intro p hp
    obtain ⟨q, hq, rfl⟩ := List.mem_map.mp hp
    split
    · exact hv
    · exact h q hq
  · intro p hp
    rcases List.mem_append.mp hp with hp | hp
    · exact h p hp
    · simp at hp; subst hp; exact hv
theorem addAll_small {k : Nat} {s : Int} (hs : s.natAbs ≤ 1) : ∀ (r m : List (Str × Int)) (j : Nat), (∀ p ∈ m, p.2.natAbs < 2 ^ (k + j)) → (∀ p ∈ r, p.2.natAbs < 2 ^ k) → ∀ p ∈ addAll s m r, p.2.natAbs < 2 ^ (k + j + r.length)
  | [], m, j, h, _ => by simpa [addAll] using h
  | p :: r, m, j, h, hr => by
    have up : ∀ a b : Nat, a ≤ b → (2 : Nat) ^ a ≤ 2 ^ b := fun a b l => Nat.pow_le_pow_right (by decide) l
    have e1 : (2 : Nat) ^ (k + (j + 1)) = 2 ^ (k + j) * 2 := by rw [← Nat.add_assoc, Nat.pow_succ]
    have hv : (getS m p.1 + s * p.2).natAbs < 2 ^ (k + (j + 1)) := by
      have h1 := getS_small h p.1
      have h2 := hr p List.mem_cons_self
      have h3 := up k (k + j) (by omega)
      have h4 : (s * p.2).natAbs ≤ p.2.natAbs := by
        rw [Int.natAbs_mul]
        exact Nat.le_trans (Nat.mul_le_mul_right _ hs) (by omega)
      have := Int.natAbs_add_le (getS m p.1) (s * p.2)
      omega
    have ih := addAll_small hs r (putS m p.1 (getS m p.1 + s * p.2)) (j + 1) (putS_small (fun q hq => Nat.lt_of_lt_of_le (h q hq) (by omega)) hv) (fun q hq => hr q (List.mem_cons_of_mem _ hq))
    intro q hq
    have := ih q hq
    rw [List.length_cons, show k + j + (r.length + 1) = k + (j + 1) + r.length by omega]
    exact this
/-- what the dict tells as a dimension -/
def tog (m : List (Str × Int)) : List (Str × Int) := ((sortS (m.map (·.1))).filter fun b => !(getS m b == 0)).map fun b => (b, getS m b)
theorem wsum_perm (w : Str → Rat) {a b : List (Str × Int)} (p : a.Perm b) : wsum w a = wsum w b := by
  induction p with
  | nil => rfl
  | cons x _ ih => show w x.1 * (x.2 : Rat) + _ = w x.1 * (x.2 : Rat) + _; rw [ih]
  | swap x y l => show w y.1 * (y.2 : Rat) + (w x.1 * (x.2 : Rat) + _) = w x.1 * (x.2 : Rat) + (w y.1 * (y.2 : Rat) + _); grind
  | trans _ _ h1 h2 => exact h1.trans h2
theorem keys_back : ∀ {m : List (Str × Int)}, (m.map (·.1)).Nodup → (m.map (·.1)).map (fun b => (b, getS m b)) = m
  | [], _ => rfl
  | p :: m, h => by
    rw [List.map_cons, List.nodup_cons] at h
    have ih := keys_back h.2
    rw [List.map_cons, List.map_cons, getS_cons, if_pos rfl]
    congr 1
    conv => rhs; rw [← ih]
    refine List.map_congr_left fun b hb => ?_
    rw [getS_cons, if_neg]
    intro e
    exact h.1 (e ▸ hb)
theorem wsum_filter (w : Str → Rat) (m : List (Str × Int)) : ∀ l : List Str, wsum w ((l.filter fun b => !(getS m b == 0)).map fun b => (b, getS m b)) = wsum w (l.map fun b => (b, getS m b))
  | [] => rfl
  | b :: l => by
    have ih := wsum_filter w m l
    by_cases e : getS m b = 0
    · have : (b :: l).filter (fun b => !(getS m b == 0)) = l.filter fun b => !(getS m b == 0) := by rw [List.filter_cons]; simp [e]
      rw [this, ih]
      show _ = w b * ((getS m b : Int) : Rat) + _
      rw [e]
      show _ = w b * 0 + _
      rw [Rat.mul_zero, Rat.zero_add]
    · have : (b :: l).filter (fun b => !(getS m b == 0)) = b :: l.filter fun b => !(getS m b == 0) := by rw [List.filter_cons]; simp [e]
      rw [this]
      show w b * _ + _ = w b * _ + _
      rw [ih]
theorem tog_wsum (w : Str → Rat) {m : List (Str × Int)} (h : (m.map (·.1)).Nodup) : wsum w (tog m) = wsum w m := by
  unfold tog
  rw [wsum_filter, wsum_perm w ((sortS_perm (m.map (·.1))).map _), keys_back h]
theorem sort_strict {l : List Str} (h : l.Nodup) : (sortS l).Pairwise (fun x y => ltS x y = true) := by
  have h1 := sortS_sorted l
  have h2 : (sortS l).Nodup := (sortS_perm l).nodup_iff.mpr h
  refine (List.Pairwise.and h1 h2).imp fun {x y} ⟨a, b⟩ => ?_
  unfold ltS
  refine decide_eq_true ?_
  unfold strLe at a
  have a := of_decide_eq_true a
  have ne : x.cps.toList ≠ y.cps.toList := fun e => b (by
    obtain ⟨⟨u⟩⟩ := x
    obtain ⟨⟨v⟩⟩ := y
    simp only at e
    rw [e])
  by_cases q : x.cps.toList < y.cps.toList
  · exact q
  · exact absurd (List.le_antisymm a (List.not_lt.mp q)) ne
theorem tog_dim {m : List (Str × Int)} (h : (m.map (·.1)).Nodup) (hn : ∀ b ∈ m.map (·.1), isName b = true) (hf : m.length ≤ 1000) : IsDim (tog m) := by
  have sub : (tog m).map (·.1) = (sortS (m.map (·.1))).filter fun b => !(getS m b == 0) := by
    unfold tog
    rw [List.map_map]
    conv => rhs; rw [← List.map_id ((sortS (m.map (·.1))).filter fun b => !(getS m b == 0))]
    rfl
  refine ⟨fun p hp => ?_, ?_, fun p hp => ?_, ?_⟩
  · have : p.1 ∈ (tog m).map (·.1) := List.mem_map_of_mem hp
    rw [sub] at this
    exact hn _ ((sortS_perm _).mem_iff.mp ((List.mem_filter.mp this).1))
  · rw [sub]
    exact ascB_pw.mpr ((sort_strict h).filter _)
  · unfold tog at hp
    obtain ⟨b, hb, rfl⟩ := List.mem_map.mp hp
    have := (List.mem_filter.mp hb).2
    simpa using this
  · have h1 : (tog m).length = ((tog m).map (·.1)).length := by simp
    rw [h1, sub]
    refine Nat.le_trans (List.length_filter_le _ _) ?_
    rw [(sortS_perm _).length_eq, List.length_map]
    exact hf
theorem tog_len (m : List (Str × Int)) : (tog m).length ≤ m.length := by
  unfold tog
  rw [List.length_map]
  refine Nat.le_trans (List.length_filter_le _ _) ?_
  rw [(sortS_perm _).length_eq, List.length_map]
  exact Nat.le_refl _
theorem tog_small {k : Nat} {m : List (Str × Int)} (h : ∀ p ∈ m, p.2.natAbs < 2 ^ k) : ∀ p ∈ tog m, p.2.natAbs < 2 ^ k := fun p hp => by
  unfold tog at hp
  obtain ⟨b, _, rfl⟩ := List.mem_map.mp hp
  exact getS_small h b
theorem addAll_names {s : Int} {a b : List (Str × Int)} (ha : IsDim a) (hb : IsDim b) : ∀ x ∈ (addAll s a b).map (·.1), isName x = true := fun x hx => by
  rcases addAll_mem s b a x hx with h | h
  · obtain ⟨p, hp, rfl⟩ := List.mem_map.mp h; exact ha.nm p hp
  · obtain ⟨p, hp, rfl⟩ := List.mem_map.mp h; exact hb.nm p hp
theorem keysS_kd : ∀ m : List (Str × Int), keysS (kd m) = some (m.map (·.1))
  | [] => rfl
  | p :: m => by
    have := keysS_kd m
    unfold kd at this ⊢
    simp [keysS, this]
theorem valD_kd (m : List (Str × Int)) (b : Str) : valD (kd m) (.inr b) = (lk m b).map .int := valD_map D.int b m
theorem ints_vl (l : List (Str × Int)) : vl.vlL (l.map fun p => D.tup [.str p.1, .int p.2]) = true := by
  induction l with
  | nil => rfl
  | cons p l ih => rw [List.map_cons]; unfold vl.vlL; rw [ih]; rfl
theorem raw_together_ok {a b : List (Str × Int)} {s : Int} (ha : IsDim a) (hb : IsDim b) (hf : a.length + b.length < 64) (hs : s.natAbs ≤ 1) (h : LH) : F_raw_together [dp a, dp b, .int s] h = some (.ok (dp (tog (addAll s a b))) h) := by
  have hk : (a.map (·.1)).Nodup := ascB_nodup ha.asc
  have e1 : raw_together_s1 [some (dp a), some (dp b), some (.int s), none, none, none] h = some (.nx [some (dp a), some (dp b), some (.int s), some (.ref h.length), none, none] (h ++ [.dic (kd a)])) := by
    have := gDict_np D.int hk h
    simp at this
    simp [raw_together_s1, dp, np, this, kd]
  have loop : ∀ (l m : List (Str × Int)) (x y : Option D), m.length + l.length < 64 → ∃ x' y', forL ⟨b.map fun p => .tup [.str p.1, .int p.2], []⟩ (gTup [gN 4, gN 5]) raw_together_b1 (l.map fun p => .tup [.str p.1, .int p.2]) [some (dp a), some (dp b), some (.int s), some (.ref h.length), x, y] (h ++ [.dic (kd m)]) =
      some (.nx [some (dp a), some (dp b), some (.int s), some (.ref h.length), x', y'] (h ++ [.dic (kd (addAll s m l))])) := by
    intro l
    induction l with
    | nil => intro m x y _; exact ⟨x, y, by simp [addAll]⟩
    | cons p l ih =>
      intro m x y hm
      rw [List.length_cons] at hm
      have hp := putS_len m p.1 (getS m p.1 + s * p.2)
      obtain ⟨x', y', ih⟩ := ih (putS m p.1 (getS m p.1 + s * p.2)) (some (.str p.1)) (some (.int p.2)) (by omega)
      refine ⟨x', y', ?_⟩
      have hi : (h ++ [LO.dic (kd m)])[h.length]? = some (.dic (kd m)) := by simp
      have g : eGet2 (eV 3) (eV 4) (eC (.int 0)) [some (dp a), some (dp b), some (.int s), some (.ref h.length), some (.str p.1), some (.int p.2)] (h ++ [.dic (kd m)]) = some (.ok (.int (getS m p.1)) (h ++ [.dic (kd m)])) := by
        rw [eGet2_ok (i := h.length) rfl hi rfl rfl rfl, valD_kd]
        unfold getS
        cases lk m p.1 <;> rfl
      have mk : mulOk s p.2 := mulOk_l (by omega)
      have kl : (kd m).length < sizeLine := by
        have : (kd m).length = m.length := by simp [kd]
        rw [this]
        exact Nat.lt_trans (show m.length < 64 by omega) (by decide)
      have st := stD_dic (d := .int (getS m p.1 + s * p.2)) hi (dKey_str p.1) kl
      rw [putD_kd, set_last] at st
      rw [List.map_cons, forL_nx (δ1 := [some (dp a), some (dp b), some (.int s), some (.ref h.length), some (.str p.1), some (.int p.2)]) (h1 := h ++ [.dic (kd m)]) (δ2 := [some (dp a), some (dp b), some (.int s), some (.ref h.length), some (.str p.1), some (.int p.2)]) (h2 := h ++ [.dic (kd (putS m p.1 (getS m p.1 + s * p.2)))]) (by simp)
        (by simp [raw_together_b1, g, gMul_int _ mk, st]) ok_nil]
      exact ih
  obtain ⟨x', y', e2⟩ := loop b a none none hf
  have s2 : raw_together_s2 [some (dp a), some (dp b), some (.int s), some (.ref h.length), none, none] (h ++ [.dic (kd a)]) = some (.nx [some (dp a), some (dp b), some (.int s), some (.ref h.length), x', y'] (h ++ [.dic (kd (addAll s a b))])) := by
    unfold raw_together_s2
    rw [sFor_ap, iSeq_ap]
    have : eV 1 [some (dp a), some (dp b), some (.int s), some (.ref h.length), none, none] (h ++ [.dic (kd a)]) = some (.ok (.tup (b.map fun p => .tup [.str p.1, .int p.2])) (h ++ [.dic (kd a)])) := by
      conv => lhs; rw [eV_1]
      rw [show dp b = .tup (b.map fun p => .tup [.str p.1, .int p.2]) by rw [dp, np, items_dp]]
    rw [this]
    exact e2
  generalize hm : addAll s a b = m at e2 s2
  have hml : m.length < 64 := by
    rw [← hm]
    have := addAll_len s b a
    omega
  have hi : (h ++ [LO.dic (kd m)])[h.length]? = some (.dic (kd m)) := by simp
  have so : gSorted [.ref h.length] (h ++ [.dic (kd m)]) = some (.ref (h.length + 1), h ++ [.dic (kd m)] ++ [.lst ((sortS (m.map (·.1))).map .str)]) := by
    unfold gSorted
    simp only [hi, keysS_kd]
    rw [if_pos (by simpa using hml)]
    simp
  generalize hh : h ++ [LO.dic (kd m)] ++ [LO.lst ((sortS (m.map (·.1))).map D.str)] = h2 at so
  have hi2 : h2[h.length + 1]? = some (.lst ((sortS (m.map (·.1))).map .str)) := by rw [← hh]; simp
  have hi3 : h2[h.length]? = some (.dic (kd m)) := by rw [← hh]; simp
  have ls : ((sortS (m.map (·.1))).map D.str).length < 64 := by
    rw [List.length_map, (sortS_perm _).length_eq, List.length_map]
    exact hml
  have ix : ∀ (bb : Str) (x : LO), bb ∈ m.map (·.1) → gIx (.ref h.length) (.str bb) (h2 ++ [x]) = some (.int (getS m bb), h2 ++ [x]) := fun bb x hb => by
    have hl : h.length < h2.length := (List.getElem?_eq_some_iff.mp hi3).1
    have hi4 : (h2 ++ [x])[h.length]? = some (.dic (kd m)) := by rw [List.getElem?_append_left hl]; exact hi3
    rw [gIx_dic hi4 (dKey_str bb), valD_kd]
    unfold getS
    cases q : lk m bb with
    | some v => rfl
    | none =>
      exfalso
      unfold lk at q
      obtain ⟨p, hp, e⟩ := List.mem_map.mp hb
      have := (List.find?_isSome (p := fun p : Str × Int => decide (p.1 = bb))).mpr ⟨p, hp, decide_eq_true e⟩
      cases z : m.find? (fun p => decide (p.1 = bb)) with
      | none => rw [z] at this; cases this
      | some v => rw [z] at q; cases q
  have e3 := eComp_pure (m := iSeq (eCall gSorted (aCons (eV 3) (aNil)))) (own := [4]) (g := Tg.g (.nm 4)) (t := raw_together_t1) (e := raw_together_e1) (δ := [some (dp a), some (dp b), some (.int s), some (.ref h.length), x', y']) (h := h ++ [.dic (kd m)]) (h1 := h2) (it := ⟨(sortS (m.map (·.1))).map .str, [(h.length + 1, .lst ((sortS (m.map (·.1))).map .str))]⟩)
    (fun d => match d with | .str bb => !(getS m bb == 0) | _ => false) (fun d => match d with | .str bb => .tup [.str bb, .int (getS m bb)] | d => d)
    (by simp only [iSeq_ap, eCall_ap, aCons_ap, eV_3, aNil_ap, bnd_ok, so, opt_some, seqOf_lst hi2, ri_some]) (ok_one hi2)
    (fun d hd x => by
      obtain ⟨bb, hb, rfl⟩ := List.mem_map.mp hd
      have hb2 : bb ∈ m.map (·.1) := (sortS_perm _).mem_iff.mp hb
      refine ⟨[some (dp a), some (dp b), some (.int s), some (.ref h.length), some (.str bb), y'], by simp, ?_, fun _ => ?_⟩
      · simp [raw_together_t1, ix bb x hb2]
      · simp [raw_together_e1, ix bb x hb2])
    (Nat.le_of_lt (Nat.lt_trans ls (by decide)))
  have res : (((sortS (m.map (·.1))).map D.str).filter (fun d => match d with | .str bb => !(getS m bb == 0) | _ => false)).map (fun d => match d with | .str bb => D.tup [.str bb, .int (getS m bb)] | d => d) = (tog m).map fun p => D.tup [.str p.1, .int p.2] := by
    unfold tog
    rw [List.filter_map, List.map_map, List.map_map]
    rfl
  simp only [res] at e3
  have s3 : raw_together_s3 [some (dp a), some (dp b), some (.int s), some (.ref h.length), x', y'] (h ++ [.dic (kd m)]) = some (.rt (dp (tog m)) (h2 ++ [.lst ((tog m).map fun p => D.tup [.str p.1, .int p.2])])) := by
    unfold raw_together_s3
    have hl : (h2 ++ [LO.lst ((tog m).map fun p => D.tup [.str p.1, .int p.2])])[h2.length]? = some (.lst ((tog m).map fun p => D.tup [.str p.1, .int p.2])) := get_last _ _
    simp only [sRet_ap, eCall_ap, aCons_ap, e3, bnd_ok, aNil_ap, gTuple_lst hl, opt_some, bndS_ok]
    rw [dp, np, items_dp]
  refine (fnD_eq _ _ _ _ (r := some (.rt (dp (tog m)) (h2 ++ [.lst ((tog m).map fun p => D.tup [.str p.1, .int p.2])]))) ?_).trans ?_
  · exact (show D_raw_together [some (dp a), some (dp b), some (.int s), none, none, none] h = _ from (seq_nx e1).trans ((seq_nx s2).trans s3))
  · rw [← hh, toR_rt, List.append_assoc, List.append_assoc]
    refine gc_new ?_
    rw [dp, np, items_dp]
    exact ints_vl _
theorem together_ok {a b : List (Str × Int)} (ha : IsDim a) (hb : IsDim b) (hf : a.length + b.length < 64) (h : LH) : F_together [dp a, dp b] h = some (.ok (dp (tog (addAll 1 a b))) h) := by
  simp [F_together, D_together, fnD_ap, together_s1, together_s2, together_s3, check_dimension_ok ha, check_dimension_ok hb, raw_together_ok ha hb hf (s := 1) (by decide)]
theorem apart_ok {a b : List (Str × Int)} (ha : IsDim a) (hb : IsDim b) (hf : a.length + b.length < 64) (h : LH) : F_apart [dp a, dp b] h = some (.ok (dp (tog (addAll (-1) a b))) h) := by
  simp [F_apart, D_apart, fnD_ap, apart_s1, apart_s2, apart_s3, check_dimension_ok ha, check_dimension_ok hb, raw_together_ok ha hb hf (s := -1) (by decide)]
def rai (l : List (Str × Int)) (n : Int) : List (Str × Int) := if n = 0 then [] else l.map fun p => (p.1, p.2 * n)
theorem wsum_mul (w : Str → Rat) (n : Int) : ∀ l : List (Str × Int), wsum w (l.map fun p => (p.1, p.2 * n)) = wsum w l * (n : Rat)
  | [] => by show (0 : Rat) = 0 * _; rw [Rat.zero_mul]
  | p :: l => by
    have ih := wsum_mul w n l
    show w p.1 * ((p.2 * n : Int) : Rat) + _ = (w p.1 * (p.2 : Rat) + wsum w l) * (n : Rat)
    rw [ih, Rat.intCast_mul]
    grind
theorem wsum_rai (w : Str → Rat) (l : List (Str × Int)) (n : Int) : wsum w (rai l n) = wsum w l * (n : Rat) := by
  unfold rai
  split
  · rename_i e; subst e
    show (0 : Rat) = wsum w l * 0
    rw [Rat.mul_zero]
  · exact wsum_mul w n l
theorem rai_dim {l : List (Str × Int)} (I : IsDim l) (n : Int) : IsDim (rai l n) := by
  unfold rai
  split
  · exact ⟨by simp, rfl, by simp, by simp⟩
  · rename_i hn
    refine ⟨fun p hp => ?_, ?_, fun p hp => ?_, by simpa using I.few⟩
    · obtain ⟨q, hq, rfl⟩ := List.mem_map.mp hp; exact I.nm q hq
    · rw [List.map_map]; exact I.asc
    · obtain ⟨q, hq, rfl⟩ := List.mem_map.mp hp; exact Int.mul_ne_zero (I.nz q hq) hn
theorem raised_ok {l : List (Str × Int)} {n : Int} (I : IsDim l) (h1 : -100 ≤ n) (h2 : n ≤ 100) (h : LH) : F_raised [dp l, .int n] h = some (.ok (dp (rai l n)) h) := by
  have e3 := eComp_pure (m := iSeq (eV 0)) (own := [2, 3]) (g := Tg.g (.tup ((.nm 2) :: (.nm 3) :: []))) (t := raw_raised_t1) (e := raw_raised_e1) (δ := [some (dp l), some (.int n), none, none]) (h := h) (h1 := h) (it := ⟨l.map fun p => .tup [.str p.1, .int p.2], []⟩)
    (fun _ => !(n == 0)) (fun d => match d with | .tup [b, .int k] => .tup [b, .int (k * n)] | d => d)
    (by rw [iSeq_ap, eV_0, dp, np, items_dp]; rfl) (fun _ => ok_nil)
    (fun d hd x => by
      obtain ⟨p, hp, rfl⟩ := List.mem_map.mp hd
      refine ⟨[some (dp l), some (.int n), some (.str p.1), some (.int p.2)], by simp, ?_, fun _ => ?_⟩
      · simp [raw_raised_t1]
      · have mk : mulOk p.2 n := mulOk_r (by omega)
        simp [raw_raised_e1, gMul_int _ mk])
    (by simpa using Nat.le_trans I.few (by decide))
  have res : ((l.map fun p => D.tup [.str p.1, .int p.2]).filter (fun _ => !(n == 0))).map (fun d => match d with | .tup [b, .int k] => D.tup [b, .int (k * n)] | d => d) = (rai l n).map fun p => D.tup [.str p.1, .int p.2] := by
    unfold rai
    by_cases e : n = 0
    · simp [e]
    · have : (!(n == 0)) = true := by simp [e]
      rw [if_neg e, this, List.filter_eq_self.mpr (fun _ _ => rfl), List.map_map, List.map_map]
      rfl
  simp only [res] at e3
  have rr : F_raw_raised [dp l, .int n] h = some (.ok (dp (rai l n)) h) := by
    refine (fnD_eq _ _ _ _ (r := some (.rt (dp (rai l n)) (h ++ [.lst ((rai l n).map fun p => D.tup [.str p.1, .int p.2])]))) ?_).trans ?_
    · show D_raw_raised [some (dp l), some (.int n), none, none] h = _
      unfold D_raw_raised
      have hl : (h ++ [LO.lst ((rai l n).map fun p => D.tup [.str p.1, .int p.2])])[h.length]? = some (.lst ((rai l n).map fun p => D.tup [.str p.1, .int p.2])) := get_last _ _
      simp only [sRet_ap, eCall_ap, aCons_ap, e3, bnd_ok, aNil_ap, gTuple_lst hl, opt_some, bndS_ok]
      rw [show dp (rai l n) = .tup ((rai l n).map fun p => .tup [.str p.1, .int p.2]) by rw [dp, np, items_dp]]
    · rw [toR_rt]
      refine gc_new ?_
      rw [dp, np, items_dp]
      exact ints_vl _
  simp [F_raised, D_raised, fnD_ap, raised_s1, raised_s2, raised_s3, check_dimension_ok I, is_within_int, h1, h2, rr]
end KK

namespace KK
open PySem PySem.Spec PyProof.Rows L2 DL
/-! ### what the law draws -/
/-- old things stay but for the hand -/
def Fr (i : Nat) (h h' : LH) : Prop := h.length ≤ h'.length ∧ ∀ j, j < h.length → j ≠ i → h'[j]? = h[j]?
theorem Fr.refl {i : Nat} {h : LH} : Fr i h h := ⟨Nat.le_refl _, fun _ _ _ => rfl⟩
theorem Fr.trans {i : Nat} {h h' h'' : LH} (a : Fr i h h') (b : Fr i h' h'') : Fr i h h'' :=
  ⟨Nat.le_trans a.1 b.1, fun j hj hi => (b.2 j (Nat.lt_of_lt_of_le hj a.1) hi).trans (a.2 j hj hi)⟩
theorem Fr.set {i : Nat} {h : LH} {x : LO} : Fr i h (h.set i x) := ⟨by simp, fun j _ hi => List.getElem?_set_ne (Ne.symm hi)⟩
theorem Fr.app {i : Nat} {h g : LH} : Fr i h (h ++ g) := ⟨by simp, fun j hj _ => List.getElem?_append_left hj⟩
theorem Fr.get {i j : Nat} {h h' : LH} {o : LO} (a : Fr i h h') (e : h[j]? = some o) (hi : j ≠ i) : h'[j]? = some o :=
  (a.2 j (List.getElem?_eq_some_iff.mp e).1 hi).trans e
theorem Hand.app {h g : LH} {i : Nat} (H : Hand h i) : Hand (h ++ g) i := by
  obtain ⟨j, cells, a, b, c, d, ⟨h1, h2, h3⟩, r⟩ := H.ex
  refine ⟨j, cells, a, b, c, d, ⟨?_, ?_, h3⟩, r⟩
  · rw [List.getElem?_append_left (List.getElem?_eq_some_iff.mp h1).1]; exact h1
  · rw [List.getElem?_append_left (List.getElem?_eq_some_iff.mp h2).1]; exact h2
theorem Hand.lt {h : LH} {i : Nat} (H : Hand h i) : i < h.length := by
  obtain ⟨j, cells, a, b, c, d, ⟨h1, h2, h3⟩, r⟩ := H.ex
  exact (List.getElem?_eq_some_iff.mp h1).1
/-- something behind the hand is changed -/
theorem Hand.set {h : LH} {i k : Nat} {o : LO} (H : Hand h i) (hi : i < k) : Hand (h.set k o) i := by
  obtain ⟨j, cells, a, b, c, d, ⟨h1, h2, h3⟩, r⟩ := H.ex
  refine ⟨j, cells, a, b, c, d, ⟨?_, ?_, h3⟩, r⟩
  · rw [List.getElem?_set_ne (Nat.ne_of_gt hi)]; exact h1
  · rw [List.getElem?_set_ne (Nat.ne_of_gt (Nat.lt_trans h3 hi))]; exact h2
theorem law_hand_ok (ns : List Int) (hl : ns.length ≤ 63) : ∃ h i, F_law_hand [.ref 0] [.rls (ns.map .int)] = some (.ok (.ref i) h) ∧ Hand h i := by
  have c : cutL (ns.map D.int) none (some 63) = (cutL (ns.map D.int) none (some 63)).map id := by simp
  obtain ⟨ms, hms⟩ : ∃ ms : List Int, cutL (ns.map D.int) none (some 63) = ms.map D.int := by
    unfold cutL
    exact ⟨_, by rw [← List.map_drop, ← List.map_take]⟩
  have sl : gSl (.ref 0) none (some 63) [.rls (ns.map .int)] = some (.ref 1, [.rls (ns.map .int), .lst (ms.map .int)]) := by
    unfold gSl
    simp [hms]
  have mlen : ms.length ≤ 63 := by
    have : (ms.map D.int).length ≤ (ns.map D.int).length := by
      rw [← hms]
      unfold cutL
      rw [List.length_take, List.length_drop]
      omega
    simpa using Nat.le_trans this (by simpa using hl)
  have hi : ([.rls (ns.map .int), .lst (ms.map .int)] : LH)[1]? = some (.lst (ms.map .int)) := rfl
  have e := eComp_map (m := iSeq (eSl (eV 0) oNone (oSome (eC (.int 63))))) (own := [2]) (g := Tg.g (.nm 2)) (e := law_hand_e1) (δ := [some (.ref 0), none, none]) (h := [.rls (ns.map .int)]) (h1 := [.rls (ns.map .int), .lst (ms.map .int)]) (it := ⟨ms.map .int, [(1, .lst (ms.map .int))]⟩)
    (fun d => match d with | .int k => .int (k.natAbs : Int) | d => d) (by simp [sl, seqOf_lst hi]) (ok_one hi)
    (fun d hd x => by
      obtain ⟨k, hk, rfl⟩ := List.mem_map.mp hd
      exact ⟨[some (.ref 0), none, some (.int k)], by simp, by simp [law_hand_e1]⟩)
    (by simpa using Nat.le_trans mlen (by decide))
  have mm : (ms.map D.int).map (fun d => match d with | .int k => .int (k.natAbs : Int) | d => d) = (ms.map fun k => (k.natAbs : Int)).map D.int := by rw [List.map_map, List.map_map]; rfl
  simp only [mm] at e
  have hi2 : ([.rls (ns.map .int), .lst (ms.map .int)] ++ [LO.lst ((ms.map fun k => (k.natAbs : Int)).map D.int)] : LH)[2]? = some (.lst ((ms.map fun k => (k.natAbs : Int)).map D.int)) := rfl
  have s1 : law_hand_s1 [some (.ref 0), none, none] [.rls (ns.map .int)] = some (.nx [some (.ref 0), some (.ref 2), none] ([.rls (ns.map .int), .lst (ms.map .int)] ++ [LO.lst ((ms.map fun k => (k.natAbs : Int)).map D.int)])) := by
    unfold law_hand_s1
    rw [sAsg_ap, e]
    simp
  have s2 : law_hand_s2 [some (.ref 0), some (.ref 2), none] ([.rls (ns.map .int), .lst (ms.map .int)] ++ [LO.lst ((ms.map fun k => (k.natAbs : Int)).map D.int)]) = some (.rt (.ref 3) ([.rls (ns.map .int), .lst (ms.map .int)] ++ [LO.lst ((ms.map fun k => (k.natAbs : Int)).map D.int)] ++ [.lst [.ref 2, .int 0, .int 0, .int (83 + 7 * (ms.length : Int)), .int 0]])) := by
    have m : ∀ x : Int, mulOk 7 x := fun x => mulOk_l (by decide)
    have gl := gLen_lst hi2
    simp only [List.length_map] at gl
    simp only [law_hand_s2, sRet_ap, eLst_ap, aCons_ap, eV_1, eC_ap, bnd_ok, eBin_ap, eCall_ap, aNil_ap, gl, opt_some, gMul_int _ (m _), gAdd_int, bndS_ok]
    rfl
  refine ⟨[.rls (ns.map .int), .lst (ms.map .int)] ++ [LO.lst ((ms.map fun k => (k.natAbs : Int)).map D.int)] ++ [.lst [.ref 2, .int 0, .int 0, .int (83 + 7 * (ms.length : Int)), .int 0]], 3, ?_, ⟨2, ms.map fun k => (k.natAbs : Int), 0, 0, _, 0, ⟨rfl, rfl, by decide⟩, fun x hx => ?_, Int.le_refl _, Int.le_refl _, by omega, Int.le_refl _⟩⟩
  · refine (fnD_eq _ _ _ _ (r := some (.rt (.ref 3) _)) ((show D_law_hand [some (.ref 0), none, none] [.rls (ns.map .int)] = _ from (seq_nx s1).trans s2))).trans ?_
    simp [gc, D.cl]
  · obtain ⟨k, _, rfl⟩ := List.mem_map.mp hx
    omega
/-! names -/
theorem gc_ref {lh lh' : LH} {k : Nat} (h : lh.length ≤ k) : gc lh (some (.ok (.ref k) lh')) = some (.ok (.ref k) lh') := by
  have : (D.ref k).cl lh.length = false := decide_eq_false (by omega)
  simp [gc, this]
theorem letter_ix {r : Int} (h0 : 0 ≤ r) (h1 : r < 26) : ∃ c, 97 ≤ c ∧ c ≤ 122 ∧ ∀ h : LH, gIx (.str "abcdefghijklmnopqrstuvwxyz") (.int r) h = some (.str ⟨#[c]⟩, h) := by
  have all : ∀ k : Fin 26, atI (Str.ofString "abcdefghijklmnopqrstuvwxyz").cps.toList (k.val : Int) = some (97 + k.val) := by decide +kernel
  obtain ⟨n, rfl⟩ := Int.eq_ofNat_of_zero_le h0
  have hn : n < 26 := by omega
  refine ⟨97 + n, by omega, by omega, fun h => ?_⟩
  have := all ⟨n, hn⟩
  simp only at this
  unfold gIx ixD
  simp only
  rw [if_pos (by decide), this]
  rfl
theorem keysS_put {b : Str} {d : D} : ∀ {kvs : List (Key × D)} {ks : List Str}, keysS kvs = some ks → keysS (putD kvs (.inr b) d) = some (if b ∈ ks then ks else ks ++ [b])
  | [], ks, e => by cases e; rfl
  | (.inl _, _) :: r, ks, e => by cases e
  | (.inr x, v) :: r, ks, e => by
    unfold keysS at e
    cases q : keysS r with
    | none => rw [q] at e; cases e
    | some kr =>
      rw [q] at e
      cases e
      have ih := keysS_put (b := b) (d := d) q
      unfold putD at ih ⊢
      by_cases hx : x = b
      · subst hx
        have a : (((.inr x, v) :: r : List (Key × D)).any fun kv => decide (kv.1 = .inr x)) = true := by simp
        rw [if_pos a, if_pos List.mem_cons_self, List.map_cons]
        have keep : ∀ (l : List (Key × D)) (kl : List Str), keysS l = some kl → keysS (l.map fun kv => if kv.1 = .inr x then (kv.1, d) else kv) = some kl := by
          intro l
          induction l with
          | nil => intro kl e; cases e; rfl
          | cons p l ih2 =>
            intro kl e
            obtain ⟨pk, pv⟩ := p
            cases pk with
            | inl _ => cases e
            | inr y =>
              unfold keysS at e
              cases z : keysS l with
              | none => rw [z] at e; cases e
              | some kz =>
                rw [z] at e
                cases e
                have := ih2 kz z
                by_cases hy : y = x
                · subst hy
                  simp [keysS, this]
                · simp [keysS, this, hy]
        have := keep r kr q
        simp [keysS, this]
      · have hx2 : ¬ b = x := fun e => hx e.symm
        by_cases hb : b ∈ kr
        · rw [if_pos hb] at ih
          rw [if_pos (List.mem_cons_of_mem _ hb)]
          have a : (r.any fun kv => decide (kv.1 = .inr b)) = true := by
            by_cases z : (r.any fun kv => decide (kv.1 = .inr b)) = true
            · exact z
            · rw [if_neg z] at ih
              have app : ∀ (l : List (Key × D)) (kl : List Str), keysS l = some kl → keysS (l ++ [(.inr b, d)]) = some (kl ++ [b]) := by
                intro l
                induction l with
                | nil => intro kl e; cases e; rfl
                | cons p l ih2 =>
                  intro kl e
                  obtain ⟨pk, pv⟩ := p
                  cases pk with
                  | inl _ => cases e
                  | inr y =>
                    unfold keysS at e
                    cases w : keysS l with
                    | none => rw [w] at e; cases e
                    | some kz => rw [w] at e; cases e; simp [keysS, ih2 kz w]
              rw [app r kr q] at ih
              have := congrArg List.length (Option.some.inj ih)
              simp at this
          rw [if_pos a] at ih
          have a2 : (((.inr x, v) :: r : List (Key × D)).any fun kv => decide (kv.1 = .inr b)) = true := by rw [List.any_cons, a]; simp
          rw [if_pos a2, List.map_cons]
          simp [hx, keysS, ih]
        · rw [if_neg hb] at ih
          have hb2 : ¬ b ∈ x :: kr := fun z => by
            rcases List.mem_cons.mp z with z | z
            · exact hx2 z
            · exact hb z
          rw [if_neg hb2]
          by_cases a : (r.any fun kv => decide (kv.1 = .inr b)) = true
          · exfalso
            rw [if_pos a] at ih
            have keep : ∀ (l : List (Key × D)) (kl kl2 : List Str), keysS l = some kl → keysS (l.map fun kv => if kv.1 = .inr b then (kv.1, d) else kv) = some kl2 → kl2.length = kl.length := by
              intro l
              induction l with
              | nil => intro kl kl2 e e2; cases e; cases e2; rfl
              | cons p l ih2 =>
                intro kl kl2 e e2
                obtain ⟨pk, pv⟩ := p
                cases pk with
                | inl _ => cases e
                | inr y =>
                  unfold keysS at e
                  cases w : keysS l with
                  | none => rw [w] at e; cases e
                  | some kz =>
                    rw [w] at e
                    cases e
                    rw [List.map_cons] at e2
                    have e3 : (if ((.inr y : Key), pv).1 = .inr b then (((.inr y : Key), pv).1, d) else ((.inr y : Key), pv)) = (.inr y, if y = b then d else pv) := by
                      by_cases hy : y = b <;> simp [hy]
                    rw [e3] at e2
                    unfold keysS at e2
                    cases w2 : keysS (l.map fun kv => if kv.1 = .inr b then (kv.1, d) else kv) with
                    | none => rw [w2] at e2; cases e2
                    | some kz2 => rw [w2] at e2; cases e2; simp [ih2 kz kz2 w w2]
            have := keep r kr _ q ih
            simp at this
          · rw [if_neg a] at ih
            have a2 : ¬ (((.inr x, v) :: r : List (Key × D)).any fun kv => decide (kv.1 = .inr b)) = true := by rw [List.any_cons]; simp [hx]; simpa using a
            rw [if_neg a2, List.cons_append]
            simp [keysS, ih]
theorem str_app_len (x y : Str) : (x ++ y).length = x.length + y.length := by
  show (x ++ y).cps.size = x.cps.size + y.cps.size
  show (x.cps ++ y.cps).size = _
  simp
theorem gAdd_str (x y : Str) (h : LH) (hz : x.length + y.length ≤ sizeLine) : gAdd (.str x) (.str y) h = some (.str (x ++ y), h) := by
  unfold gAdd; exact if_pos hz
def letters (z : Str) : Bool := z.cps.toList.all fun c => decide (97 ≤ c ∧ c ≤ 122)
theorem letters_app {x y : Str} (h : letters x = true) (k : letters y = true) : letters (x ++ y) = true := by
  unfold letters at *
  have : (x ++ y).cps.toList = x.cps.toList ++ y.cps.toList := by
    show (x.cps ++ y.cps).toList = _
    simp
  rw [this, List.all_append, h, k]
  rfl
theorem names_inner {i r : Nat} {h0 : LH} {L M : Option D} {n : Nat} : ∀ (ds : List D) (z : Str) (x : Option D) (h : LH), Hand h i → Fr i h0 h → h.length = h0.length → letters z = true → 1 ≤ z.length → z.length + ds.length ≤ 8 →
    ∃ z' x' h', forL ⟨rgD 0 n, []⟩ (gN 4) law_names_b1 ds [some (.ref i), M, some (.str "abcdefghijklmnopqrstuvwxyz"), L, x, some (.str z)] h = some (.nx [some (.ref i), M, some (.str "abcdefghijklmnopqrstuvwxyz"), L, x', some (.str z')] h') ∧
      Hand h' i ∧ Fr i h0 h' ∧ h'.length = h0.length ∧ isName z' = true := by
  intro ds
  induction ds with
  | nil =>
    intro z x h H F hl lz l1 l2
    refine ⟨z, x, h, rfl, H, F, hl, ?_⟩
    unfold isName
    rw [Bool.and_eq_true]
    exact ⟨decide_eq_true ⟨l1, by simpa using l2⟩, lz⟩
  | cons d ds ih =>
    intro z x h H F hl lz l1 l2
    rw [List.length_cons] at l2
    obtain ⟨v, o, e1, v0, v1, H1⟩ := draw (many := 26) H (by decide) (by decide)
    obtain ⟨c, c1, c2, e2⟩ := letter_ix v0 v1
    have one : (⟨#[c]⟩ : Str).length = 1 := rfl
    have lc : letters ⟨#[c]⟩ = true := by unfold letters; simp [c1, c2]
    have sz : z.length + (⟨#[c]⟩ : Str).length ≤ sizeLine := by rw [one]; exact Nat.le_trans (by omega : z.length + 1 ≤ 8) (by decide)
    have nl : (z ++ (⟨#[c]⟩ : Str)).length = z.length + 1 := by rw [str_app_len, one]
    obtain ⟨z', x', h', e3, q⟩ := ih (z ++ ⟨#[c]⟩) (some d) (h.set i o) H1 (F.trans Fr.set) (by simp [hl]) (letters_app lz lc) (by omega) (by omega)
    refine ⟨z', x', h', ?_, q⟩
    rw [forL_nx (δ1 := [some (.ref i), M, some (.str "abcdefghijklmnopqrstuvwxyz"), L, some d, some (.str z)]) (h1 := h) (δ2 := [some (.ref i), M, some (.str "abcdefghijklmnopqrstuvwxyz"), L, some d, some (.str (z ++ ⟨#[c]⟩))]) (h2 := h.set i o) (by simp)
      (by simp [law_names_b1, e1, e2, gAdd_str _ _ _ sz]) ok_nil]
    exact e3
theorem names_outer {i r : Nat} {h0 : LH} {many : Int} (hr : h0.length ≤ r) (hir : i < r) : ∀ (ds : List D) (ks : List Str) (kvs : List (Key × D)) (x y : Option D) (h : LH), Hand h i → Fr i h0 h → h[r]? = some (.dic kvs) → kvs.length = ks.length → keysS kvs = some ks → ks.Nodup → (∀ z ∈ ks, isName z = true) → ks.length + ds.length ≤ 63 →
    ∃ ks' kvs' x' y' h', forL ⟨rgD 0 many, []⟩ (gN 4) law_names_b2 ds [some (.ref i), some (.int many), some (.str "abcdefghijklmnopqrstuvwxyz"), some (.ref r), x, y] h = some (.nx [some (.ref i), some (.int many), some (.str "abcdefghijklmnopqrstuvwxyz"), some (.ref r), x', y'] h') ∧
      Hand h' i ∧ Fr i h0 h' ∧ h'[r]? = some (.dic kvs') ∧ keysS kvs' = some ks' ∧ ks'.Nodup ∧ (∀ z ∈ ks', isName z = true) ∧ ks'.length ≤ ks.length + ds.length := by
  intro ds
  induction ds with
  | nil => intro ks kvs x y h H F hd hkl hk hn hm hl; exact ⟨ks, kvs, x, y, h, rfl, H, F, hd, hk, hn, hm, by simp⟩
  | cons d ds ih =>
    intro ks kvs x y h H F hd hkl hk hn hm hl
    rw [List.length_cons] at hl
    obtain ⟨v, o, e1, v0, v1, H1⟩ := draw (many := 26) H (by decide) (by decide)
    obtain ⟨c, c1, c2, e2⟩ := letter_ix v0 v1
    obtain ⟨w, p, e3, w0, w1, H2⟩ := draw (many := 8) H1 (by decide) (by decide)
    rw [List.set_set] at e3 H2
    have lc : letters ⟨#[c]⟩ = true := by unfold letters; simp [c1, c2]
    have rl : (rgD 0 w).length ≤ 7 := by rw [rgD_len]; omega
    obtain ⟨z', x', h', e4, H3, F3, l3, nz⟩ := names_inner (h0 := h.set i p) (L := some (.ref r)) (M := some (.int many)) (n := w.toNat) (r := r) (rgD 0 w) ⟨#[c]⟩ (some d) (h.set i p) H2 Fr.refl rfl lc (Nat.le_refl 1) (by show 1 + _ ≤ 8; omega)
    have ew : (w.toNat : Int) = w := by omega
    rw [ew] at e4
    have hd3 : h'[r]? = some (.dic kvs) := F3.get (by rw [List.getElem?_set_ne (Nat.ne_of_lt hir)]; exact hd) (Nat.ne_of_gt hir)
    have kl : kvs.length < sizeLine := by rw [hkl]; exact Nat.lt_of_le_of_lt (by omega : ks.length ≤ 63) (by decide)
    have st := stD_dic (d := .bl true) hd3 (dKey_str z') kl
    have hr' : r < h'.length := (List.getElem?_eq_some_iff.mp hd3).1
    have H4 : Hand (h'.set r (.dic (putD kvs (.inr z') (.bl true)))) i := H3.set hir
    have F4 : Fr i h0 (h'.set r (.dic (putD kvs (.inr z') (.bl true)))) := by
      have a := (F.trans (Fr.set (x := p))).trans F3
      refine ⟨by simpa using a.1, fun j hj hi => ?_⟩
      rw [List.getElem?_set_ne (by omega)]
      exact a.2 j hj hi
    have hk' := keysS_put (b := z') (d := .bl true) hk
    have klen : ∀ (l : List (Key × D)) (kl : List Str), keysS l = some kl → l.length = kl.length := by
      intro l
      induction l with
      | nil => intro kl e; cases e; rfl
      | cons q l ih2 =>
        intro kl e
        obtain ⟨qk, qv⟩ := q
        cases qk with
        | inl _ => cases e
        | inr y =>
          unfold keysS at e
          cases w : keysS l with
          | none => rw [w] at e; cases e
          | some kz => rw [w] at e; cases e; simp [ih2 kz w]
    have newlen : (if z' ∈ ks then ks else ks ++ [z']).length ≤ ks.length + 1 := by split <;> simp
    obtain ⟨ks', kvs', x2, y2, h2, e5, q1, q2, q3, q4, q5, q6, q7⟩ := ih (if z' ∈ ks then ks else ks ++ [z']) (putD kvs (.inr z') (.bl true)) x' (some (.str z')) (h'.set r (.dic (putD kvs (.inr z') (.bl true)))) H4 F4 (by rw [List.getElem?_set_self hr']) (klen _ _ hk') hk'
      (by split
          · exact hn
          · rename_i hb
            rw [List.nodup_append]
            exact ⟨hn, by simp, fun a ha c hc e => by simp at hc; subst hc; subst e; exact hb ha⟩)
      (by intro z hz
          split at hz
          · exact hm z hz
          · rcases List.mem_append.mp hz with hz | hz
            · exact hm z hz
            · simp at hz; subst hz; exact nz)
      (by omega)
    refine ⟨ks', kvs', x2, y2, h2, ?_, q1, q2, q3, q4, q5, q6, by rw [List.length_cons]; omega⟩
    have iw : DL.inR w := by unfold DL.inR; omega
    have s5 : law_names_s5 [some (.ref i), some (.int many), some (.str "abcdefghijklmnopqrstuvwxyz"), some (.ref r), some d, y] h = some (.nx [some (.ref i), some (.int many), some (.str "abcdefghijklmnopqrstuvwxyz"), some (.ref r), some d, some (.str ⟨#[c]⟩)] (h.set i o)) := by
      simp [law_names_s5, e1, e2]
    have s6 : law_names_s6 [some (.ref i), some (.int many), some (.str "abcdefghijklmnopqrstuvwxyz"), some (.ref r), some d, some (.str ⟨#[c]⟩)] (h.set i o) = some (.nx [some (.ref i), some (.int many), some (.str "abcdefghijklmnopqrstuvwxyz"), some (.ref r), x', some (.str z')] h') := by
      unfold law_names_s6
      rw [sFor_ap, iRng_1 (n := w) (h1 := h.set i p) (by simp [e3]) iw]
      exact e4
    have s7 : law_names_s7 [some (.ref i), some (.int many), some (.str "abcdefghijklmnopqrstuvwxyz"), some (.ref r), x', some (.str z')] h' = some (.nx [some (.ref i), some (.int many), some (.str "abcdefghijklmnopqrstuvwxyz"), some (.ref r), x', some (.str z')] (h'.set r (.dic (putD kvs (.inr z') (.bl true))))) := by
      simp [law_names_s7, st]
    have sb : law_names_b2 [some (.ref i), some (.int many), some (.str "abcdefghijklmnopqrstuvwxyz"), some (.ref r), some d, y] h = some (.nx [some (.ref i), some (.int many), some (.str "abcdefghijklmnopqrstuvwxyz"), some (.ref r), x', some (.str z')] (h'.set r (.dic (putD kvs (.inr z') (.bl true))))) := by
      unfold law_names_b2
      rw [seq_nx s5, seq_nx s6]
      exact s7
    rw [forL_nx (δ1 := [some (.ref i), some (.int many), some (.str "abcdefghijklmnopqrstuvwxyz"), some (.ref r), some d, y]) (h1 := h) (by simp) sb ok_nil]
    exact e5
structure Names (l : List Str) : Prop where
  nm : ∀ z ∈ l, isName z = true
  asc : ascB l = true
theorem law_names_ok {h : LH} {i : Nat} {many : Int} (H : Hand h i) (h0 : 0 ≤ many) (h1 : many ≤ 63) : ∃ names h' k, F_law_names [.ref i, .int many] h = some (.ok (.ref k) h') ∧ h'[k]? = some (.lst (names.map .str)) ∧ k ≠ i ∧ h.length ≤ k ∧ Names names ∧ (names.length : Int) ≤ many ∧ Hand h' i ∧ Fr i h h' := by
  have hil := H.lt
  have rl : (rgD 0 many).length = many.toNat := by rw [rgD_len]; simp
  obtain ⟨ks, kvs, x, y, h', e, H', F', hd, hk, hn, hm, hl⟩ := names_outer (h0 := h) (r := h.length) (many := many) (i := i) (Nat.le_refl _) (by omega) (rgD 0 many) [] [] none none (h ++ [.dic []]) H.app Fr.app (by simp) rfl rfl List.nodup_nil (by simp) (by rw [rl]; simp; omega)
  have hkl : ks.length < 64 := by rw [rl] at hl; simp at hl; omega
  have so : gSorted [.ref h.length] h' = some (.ref h'.length, h' ++ [.lst ((sortS ks).map .str)]) := by
    unfold gSorted
    simp only [hd, hk]
    rw [if_pos hkl]
  have iw : DL.inR many := by unfold DL.inR; omega
  have s1 : law_names_s1 [some (.ref i), some (.int many), none, none, none, none] h = some (.nx [some (.ref i), some (.int many), some (.str "abcdefghijklmnopqrstuvwxyz"), none, none, none] h) := by simp [law_names_s1]
  have s2 : law_names_s2 [some (.ref i), some (.int many), some (.str "abcdefghijklmnopqrstuvwxyz"), none, none, none] h = some (.nx [some (.ref i), some (.int many), some (.str "abcdefghijklmnopqrstuvwxyz"), some (.ref h.length), none, none] (h ++ [.dic []])) := by simp [law_names_s2]
  have s3 : law_names_s3 [some (.ref i), some (.int many), some (.str "abcdefghijklmnopqrstuvwxyz"), some (.ref h.length), none, none] (h ++ [.dic []]) = some (.nx [some (.ref i), some (.int many), some (.str "abcdefghijklmnopqrstuvwxyz"), some (.ref h.length), x, y] h') := by
    unfold law_names_s3
    rw [sFor_ap, iRng_1 (n := many) (h1 := h ++ [.dic []]) (by simp) iw]
    exact e
  have s4 : law_names_s4 [some (.ref i), some (.int many), some (.str "abcdefghijklmnopqrstuvwxyz"), some (.ref h.length), x, y] h' = some (.rt (.ref h'.length) (h' ++ [.lst ((sortS ks).map .str)])) := by
    simp [law_names_s4, so]
  refine ⟨sortS ks, h' ++ [.lst ((sortS ks).map .str)], h'.length, ?_, get_last _ _, ?_, F'.1, ⟨fun z hz => hm z ((sortS_perm _).mem_iff.mp hz), ascB_pw.mpr (sort_strict hn)⟩, ?_, H'.app, F'.trans Fr.app⟩
  · refine (fnD_eq _ _ _ _ (r := some (.rt (.ref h'.length) (h' ++ [.lst ((sortS ks).map .str)]))) (show D_law_names [some (.ref i), some (.int many), none, none, none, none] h = _ from (seq_nx s1).trans ((seq_nx s2).trans ((seq_nx s3).trans s4)))).trans ?_
    exact gc_ref F'.1
  · have := H'.lt; omega
  · rw [(sortS_perm _).length_eq]
    rw [rl] at hl
    simp at hl
    omega
/-! weights and sizes -/
theorem append_lst {h : LH} {r : Nat} {xs : List D} {d : D} (e : h[r]? = some (.lst xs)) (hz : xs.length < sizeLine) : gAppend (.ref r) [d] h = some (.non, h.set r (.lst (xs ++ [d]))) := by
  unfold gAppend
  simp [e, hz]
theorem tyM_lst {h : LH} {r : Nat} {xs : List D} (e : h[r]? = some (.lst xs)) : tyM "list" (.ref r) h = true := by simp [tyM, e]
theorem eMeth_ap (T : String) (g : D → List D → LH → Option (D × LH)) (mo : EM) (a : AM) (δ : DSt) (h : LH) : eMeth T g mo a δ h = bnd (mo δ h) fun o h1 => if tyM T o h1 = true then bnd (a δ h1) fun ds h2 => opt (g o ds h2) else none := rfl
theorem Fr.setBig {i r : Nat} {h0 h : LH} {o : LO} (F : Fr i h0 h) (hr : h0.length ≤ r) : Fr i h0 (h.set r o) := by
  refine ⟨by simpa using F.1, fun j hj hi => ?_⟩
  rw [List.getElem?_set_ne (by omega)]
  exact F.2 j hj hi
theorem set_get {h : LH} {r : Nat} {o o' : LO} (e : h[r]? = some o) : (h.set r o')[r]? = some o' := by rw [List.getElem?_set_self (List.getElem?_eq_some_iff.mp e).1]
def wi (p : Str × Rat) : D := .tup [.str p.1, rD p.2]
def di (p : Str × Int) : D := .tup [.str p.1, .int p.2]
theorem sz_low {a b : Int} (hb : 0 < b) (ha : a.natAbs < 2 ^ 20) (hb2 : b < 2 ^ 20) : sz 20 (Rat.divInt a b) :=
  ⟨Nat.lt_of_le_of_lt (num_le a b) ha, Nat.lt_of_le_of_lt (den_le a b (by omega)) (by omega)⟩
theorem div_ne {a b : Int} (ha : a ≠ 0) (hb : b ≠ 0) : Rat.divInt a b ≠ 0 := by
  intro e
  rw [show (0 : Rat) = Rat.divInt 0 1 from (Rat.num_divInt_den 0).symm, Rat.divInt_eq_divInt_iff hb (by decide)] at e
  omega
theorem weights_loop {i k r : Nat} {names : List Str} {h0 : LH} (hik : k ≠ i) (hr : h0.length ≤ r) (hir : i < r) (hkr : k ≠ r) (hk0 : h0[k]? = some (.lst (names.map .str))) : ∀ (rest : List Str) (l : List (Str × Rat)) (x y : Option D) (h : LH), Hand h i → Fr i h0 h → h[r]? = some (.lst (l.map wi)) → l.length + rest.length ≤ 1000 →
    ∃ l' x' y' h', forL ⟨names.map .str, [(k, .lst (names.map .str))]⟩ (gN 3) law_weights_b1 (rest.map .str) [some (.ref i), some (.ref k), some (.ref r), x, y] h = some (.nx [some (.ref i), some (.ref k), some (.ref r), x', y'] h') ∧
      Hand h' i ∧ Fr i h0 h' ∧ h'[r]? = some (.lst ((l ++ l').map wi)) ∧ (l'.map (·.1)).Sublist rest ∧ (∀ p ∈ l', p.2 ≠ 0 ∧ sz 20 p.2) := by
  have hk0l := (List.getElem?_eq_some_iff.mp hk0).1
  intro rest
  induction rest with
  | nil => intro l x y h H F hl hz; exact ⟨[], x, y, h, rfl, H, F, by simpa using hl, by simp, by simp⟩
  | cons nm rest ih =>
    intro l x y h H F hl hz
    rw [List.length_cons] at hz
    have ok : ∀ {h' : LH}, Fr i h0 h' → (⟨names.map .str, [(k, .lst (names.map .str))]⟩ : ItD).ok h' := fun F' j o z => by
      simp only [List.mem_singleton] at z
      cases z
      exact F'.get hk0 hik
    have p6 : ∀ h : LH, gPow (.int 10) (.int 6) h = some (.int 1000000, h) := fun h => gPow_nat 10 6 h (by decide) (by decide)
    have p5 : ∀ h : LH, gPow (.int 10) (.int 5) h = some (.int 100000, h) := fun h => gPow_nat 10 5 h (by decide) (by decide)
    obtain ⟨v, o, e1, v0, v1, H1⟩ := draw (many := 1000000) H (by decide) (by decide)
    have s4 : law_weights_s4 [some (.ref i), some (.ref k), some (.ref r), some (.str nm), y] h = some (.nx [some (.ref i), some (.ref k), some (.ref r), some (.str nm), some (.int (v - 100000))] (h.set i o)) := by
      simp [law_weights_s4, p6, p5, e1]
    have F1 : Fr i h0 (h.set i o) := F.trans Fr.set
    have hl1 : (h.set i o)[r]? = some (.lst (l.map wi)) := by rw [List.getElem?_set_ne (Nat.ne_of_lt hir)]; exact hl
    rw [List.map_cons]
    by_cases h0v : v - 100000 = 0
    · obtain ⟨l', x', y', h', e, q1, q2, q3, q4, q5⟩ := ih l (some (.str nm)) (some (.int (v - 100000))) (h.set i o) H1 F1 hl1 (by omega)
      refine ⟨l', x', y', h', ?_, q1, q2, q3, q4.trans (List.sublist_cons_self _ _), q5⟩
      rw [forL_nx (δ1 := [some (.ref i), some (.ref k), some (.ref r), some (.str nm), y]) (h1 := h) (δ2 := [some (.ref i), some (.ref k), some (.ref r), some (.str nm), some (.int (v - 100000))]) (h2 := h.set i o) (by simp)
        (by unfold law_weights_b1; rw [seq_nx s4]; simp [law_weights_s5, h0v]) (ok F1)]
      exact e
    · obtain ⟨w, o2, e2, w0, w1, H2⟩ := draw (many := 3) H1 (by decide) (by decide)
      rw [List.set_set] at e2 H2
      have F2 : Fr i h0 (h.set i o2) := F.trans Fr.set
      have hl2 : (h.set i o2)[r]? = some (.lst (l.map wi)) := by rw [List.getElem?_set_ne (Nat.ne_of_lt hir)]; exact hl
      by_cases hw : 0 < w
      · obtain ⟨u, o3, e3, u0, u1, H3⟩ := draw (many := 1000000) H2 (by decide) (by decide)
        rw [List.set_set] at e3 H3
        have F3 : Fr i h0 (h.set i o3) := F.trans Fr.set
        have hl3 : (h.set i o3)[r]? = some (.lst (l.map wi)) := by rw [List.getElem?_set_ne (Nat.ne_of_lt hir)]; exact hl
        have hu : (1 + u) ≠ 0 := by omega
        have ll := law_low_ok (v - 100000) (1 + u) (h.set i o3) hu (Nat.lt_of_lt_of_le (by omega : (1 + u).natAbs < 2 ^ 20) (Nat.pow_le_pow_right (by decide) (by decide)))
        have ap := append_lst (d := wi (nm, Rat.divInt (v - 100000) (1 + u))) hl3 (by simp; exact Nat.lt_of_le_of_lt (by omega : l.length ≤ 1000) (by decide))
        have H4 : Hand ((h.set i o3).set r (.lst (l.map wi ++ [wi (nm, Rat.divInt (v - 100000) (1 + u))]))) i := H3.set hir
        have hl4 := set_get (o' := .lst (l.map wi ++ [wi (nm, Rat.divInt (v - 100000) (1 + u))])) hl3
        obtain ⟨l', x', y', h', e, q1, q2, q3, q4, q5⟩ := ih (l ++ [(nm, Rat.divInt (v - 100000) (1 + u))]) (some (.str nm)) (some (.int (v - 100000))) _ H4 (F3.setBig hr) (by rw [hl4]; simp) (by simp; omega)
        refine ⟨(nm, Rat.divInt (v - 100000) (1 + u)) :: l', x', y', h', ?_, q1, q2, by rw [q3]; simp, ?_, fun p hp => ?_⟩
        · rw [forL_nx (δ1 := [some (.ref i), some (.ref k), some (.ref r), some (.str nm), y]) (h1 := h) (δ2 := [some (.ref i), some (.ref k), some (.ref r), some (.str nm), some (.int (v - 100000))]) (h2 := (h.set i o3).set r (.lst (l.map wi ++ [wi (nm, Rat.divInt (v - 100000) (1 + u))]))) (by simp)
            (by unfold law_weights_b1
                rw [seq_nx s4]
                simp [law_weights_s5, h0v, e2, hw, eMeth_ap, tyM_lst hl2, p6, e3, ll]
                simp [wi] at ap
                rw [ap]
                simp [wi]) (ok (F3.setBig hr))]
          exact e
        · rw [List.map_cons]; exact q4.cons_cons nm
        · rcases List.mem_cons.mp hp with rfl | hp
          · exact ⟨div_ne h0v hu, sz_low (by omega) (by omega) (by omega)⟩
          · exact q5 p hp
      · obtain ⟨l', x', y', h', e, q1, q2, q3, q4, q5⟩ := ih l (some (.str nm)) (some (.int (v - 100000))) (h.set i o2) H2 F2 hl2 (by omega)
        refine ⟨l', x', y', h', ?_, q1, q2, q3, q4.trans (List.sublist_cons_self _ _), q5⟩
        rw [forL_nx (δ1 := [some (.ref i), some (.ref k), some (.ref r), some (.str nm), y]) (h1 := h) (δ2 := [some (.ref i), some (.ref k), some (.ref r), some (.str nm), some (.int (v - 100000))]) (h2 := h.set i o2) (by simp)
          (by unfold law_weights_b1; rw [seq_nx s4]; simp [law_weights_s5, h0v, e2, hw]) (ok F2)]
        exact e
end KK

namespace KK
open PySem PySem.Spec PyProof.Rows L2 DL
theorem gc_some (lh lh' : LH) (d : D) : ∃ h'', gc lh (some (.ok d lh')) = some (.ok d h'') ∧ (h'' = lh' ∨ h'' = lh'.take lh.length) := by
  unfold gc
  simp only
  split
  · exact ⟨_, rfl, .inr rfl⟩
  · exact ⟨_, rfl, .inl rfl⟩
theorem Hand.take {h : LH} {i n : Nat} (H : Hand h i) (hi : i < n) : Hand (h.take n) i := by
  obtain ⟨j, cells, a, b, c, d, ⟨h1, h2, h3⟩, r⟩ := H.ex
  refine ⟨j, cells, a, b, c, d, ⟨?_, ?_, h3⟩, r⟩
  · rw [List.getElem?_take_of_lt hi]; exact h1
  · rw [List.getElem?_take_of_lt (Nat.lt_trans h3 hi)]; exact h2
theorem Fr.take {i : Nat} {h h' : LH} (F : Fr i h h') : Fr i h (h'.take h.length) := by
  refine ⟨by rw [List.length_take]; have := F.1; omega, fun j hj hi => ?_⟩
  rw [List.getElem?_take_of_lt hj]
  exact F.2 j hj hi
theorem gc_hand {i : Nat} {h h' : LH} {d : D} (hi : i < h.length) (H : Hand h' i) (F : Fr i h h') : ∃ h'', gc h (some (.ok d h')) = some (.ok d h'') ∧ Hand h'' i ∧ Fr i h h'' := by
  obtain ⟨h'', e, q⟩ := gc_some h h' d
  refine ⟨h'', e, ?_⟩
  rcases q with rfl | rfl
  · exact ⟨H, F⟩
  · exact ⟨H.take hi, F.take⟩
theorem wp_eq (l : List (Str × Rat)) : wp l = .tup (l.map wi) := by unfold wp np wi; rw [List.map_map]; rfl
theorem dp_eq (l : List (Str × Int)) : dp l = .tup (l.map di) := by rw [dp, np, items_dp]; rfl
theorem sub_names {l names : List Str} (N : Names names) (s : l.Sublist names) : Names l :=
  ⟨fun z hz => N.nm z (s.subset hz), ascB_pw.mpr ((ascB_pw.mp N.asc).sublist s)⟩
theorem law_weights_ok {h : LH} {i k : Nat} {names : List Str} (H : Hand h i) (hk : h[k]? = some (.lst (names.map .str))) (hki : k ≠ i) (N : Names names) (hz : names.length ≤ 1000) :
    ∃ l h', F_law_weights [.ref i, .ref k] h = some (.ok (wp l) h') ∧ Hand h' i ∧ Fr i h h' ∧ IsW l ∧ (∀ p ∈ l, sz 20 p.2) ∧ (l.map (·.1)).Sublist names := by
  have hil := H.lt
  have hkl := (List.getElem?_eq_some_iff.mp hk).1
  have hr : (h ++ [LO.lst []])[h.length]? = some (.lst (([] : List (Str × Rat)).map wi)) := by simp
  have hk1 : (h ++ [LO.lst []])[k]? = some (.lst (names.map .str)) := by rw [List.getElem?_append_left hkl]; exact hk
  obtain ⟨l, x, y, h', e, q1, q2, q3, q4, q5⟩ := weights_loop (i := i) (k := k) (r := h.length) (names := names) (h0 := h) hki (Nat.le_refl _) hil (by omega) hk names [] none none (h ++ [.lst []]) H.app Fr.app hr (by simpa using hz)
  rw [List.nil_append] at q3
  have s1 : law_weights_s1 [some (.ref i), some (.ref k), none, none, none] h = some (.nx [some (.ref i), some (.ref k), some (.ref h.length), none, none] (h ++ [.lst []])) := by simp [law_weights_s1]
  have s2 : law_weights_s2 [some (.ref i), some (.ref k), some (.ref h.length), none, none] (h ++ [.lst []]) = some (.nx [some (.ref i), some (.ref k), some (.ref h.length), x, y] h') := by
    unfold law_weights_s2
    rw [sFor_ap, iSeq_ap, eV_1]
    simp only [bnd_ok, seqOf_lst hk1, ri_some, bndS_ok]
    exact e
  have s3 : law_weights_s3 [some (.ref i), some (.ref k), some (.ref h.length), x, y] h' = some (.rt (wp l) h') := by
    simp [law_weights_s3, gTuple_lst q3, wp_eq]
  obtain ⟨h'', e2, H2, F2⟩ := gc_hand (d := wp l) hil q1 q2
  have sn := sub_names N q4
  refine ⟨l, h'', ?_, H2, F2, ⟨fun p hp => sn.nm p.1 (List.mem_map_of_mem hp), sn.asc, fun p hp => (q5 p hp).1, ?_⟩, fun p hp => (q5 p hp).2, q4⟩
  · exact (fnD_eq _ _ _ _ (r := some (.rt (wp l) h')) (show D_law_weights [some (.ref i), some (.ref k), none, none, none] h = _ from (seq_nx s1).trans ((seq_nx s2).trans s3))).trans e2
  · have := q4.length_le
    simp at this
    omega
theorem size_loop {i k r : Nat} {names : List Str} {h0 : LH} {most : Int} (hm0 : 0 < most) (hm : most ≤ 10 ^ 58) (hik : k ≠ i) (hr : h0.length ≤ r) (hir : i < r) (hkr : k ≠ r) (hk0 : h0[k]? = some (.lst (names.map .str))) : ∀ (rest : List Str) (l : List (Str × Int)) (x y : Option D) (h : LH), Hand h i → Fr i h0 h → h[r]? = some (.lst (l.map di)) → l.length + rest.length ≤ 1000 →
    ∃ l' x' y' h', forL ⟨names.map .str, [(k, .lst (names.map .str))]⟩ (gN 4) law_size_b1 (rest.map .str) [some (.ref i), some (.ref k), some (.int most), some (.ref r), x, y] h = some (.nx [some (.ref i), some (.ref k), some (.int most), some (.ref r), x', y'] h') ∧
      Hand h' i ∧ Fr i h0 h' ∧ h'[r]? = some (.lst ((l ++ l').map di)) ∧ (l'.map (·.1)).Sublist rest ∧ (∀ p ∈ l', p.2 ≠ 0 ∧ p.2.natAbs ≤ most.natAbs) := by
  have hk0l := (List.getElem?_eq_some_iff.mp hk0).1
  intro rest
  induction rest with
  | nil => intro l x y h H F hl hz; exact ⟨[], x, y, h, rfl, H, F, by simpa using hl, by simp, by simp⟩
  | cons nm rest ih =>
    intro l x y h H F hl hz
    rw [List.length_cons] at hz
    have ok : ∀ {h' : LH}, Fr i h0 h' → (⟨names.map .str, [(k, .lst (names.map .str))]⟩ : ItD).ok h' := fun F' j o z => by
      simp only [List.mem_singleton] at z
      cases z
      exact F'.get hk0 hik
    obtain ⟨v, o, e1, v0, v1, H1⟩ := draw (many := 2) H (by decide) (by decide)
    have F1 : Fr i h0 (h.set i o) := F.trans Fr.set
    have hl1 : (h.set i o)[r]? = some (.lst (l.map di)) := by rw [List.getElem?_set_ne (Nat.ne_of_lt hir)]; exact hl
    rw [List.map_cons]
    by_cases h0v : v = 0
    · subst h0v
      have small : (2 * most).natAbs < 2 ^ 8000 := by
        have : (2 * most).natAbs < 2 ^ 200 := by
          have h1 : (2 * most).natAbs ≤ 2 * 10 ^ 58 := by omega
          exact Nat.lt_of_le_of_lt h1 (by decide)
        exact Nat.lt_of_lt_of_le this (Nat.pow_le_pow_right (by decide) (by decide))
      obtain ⟨w, o2, e2, w0, w1, H2⟩ := draw (many := 2 * most) H1 (by omega) small
      rw [List.set_set] at e2 H2
      have F2 : Fr i h0 (h.set i o2) := F.trans Fr.set
      have hl2 : (h.set i o2)[r]? = some (.lst (l.map di)) := by rw [List.getElem?_set_ne (Nat.ne_of_lt hir)]; exact hl
      have mk : mulOk 2 most := mulOk_l (by decide)
      generalize hn : w - most + (if most ≤ w then 1 else 0) = n
      have hn0 : n ≠ 0 ∧ n.natAbs ≤ most.natAbs := by split at hn <;> omega
      have ap := append_lst (d := di (nm, n)) hl2 (by simp; exact Nat.lt_of_le_of_lt (by omega : l.length ≤ 1000) (by decide))
      have H4 : Hand ((h.set i o2).set r (.lst (l.map di ++ [di (nm, n)]))) i := H2.set hir
      have hl4 := set_get (o' := .lst (l.map di ++ [di (nm, n)])) hl2
      obtain ⟨l', x', y', h', e, q1, q2, q3, q4, q5⟩ := ih (l ++ [(nm, n)]) (some (.str nm)) (some (.int (w - most))) _ H4 (F2.setBig hr) (by rw [hl4]; simp) (by simp; omega)
      refine ⟨(nm, n) :: l', x', y', h', ?_, q1, q2, by rw [q3]; simp, ?_, fun p hp => ?_⟩
      · have s4 : law_size_s4 [some (.ref i), some (.ref k), some (.int most), some (.ref r), some (.str nm), y] (h.set i o) = some (.nx [some (.ref i), some (.ref k), some (.int most), some (.ref r), some (.str nm), some (.int (w - most))] (h.set i o2)) := by
          simp [law_size_s4, gMul_int _ mk, e2]
        have s5 : law_size_s5 [some (.ref i), some (.ref k), some (.int most), some (.ref r), some (.str nm), some (.int (w - most))] (h.set i o2) = some (.nx [some (.ref i), some (.ref k), some (.int most), some (.ref r), some (.str nm), some (.int (w - most))] ((h.set i o2).set r (.lst (l.map di ++ [di (nm, n)])))) := by
          simp [di] at ap
          have hn' : w - most + (if 0 ≤ w - most then 1 else 0) = n := by rw [← hn]; congr 1; by_cases z : most ≤ w <;> simp [z] <;> omega
          simp [law_size_s5, eMeth_ap, tyM_lst hl2]
          have c : (w - most + if most ≤ w then 1 else 0) = n := hn
          simp [c, ap, di]
        rw [forL_nx (δ1 := [some (.ref i), some (.ref k), some (.int most), some (.ref r), some (.str nm), y]) (h1 := h) (δ2 := [some (.ref i), some (.ref k), some (.int most), some (.ref r), some (.str nm), some (.int (w - most))]) (h2 := (h.set i o2).set r (.lst (l.map di ++ [di (nm, n)]))) (by simp)
          (by simp [law_size_b1, e1]
              have := (seq_nx (b := law_size_s5) s4).trans s5
              rw [sSeq_ap] at this
              exact this) (ok (F2.setBig hr))]
        exact e
      · rw [List.map_cons]; exact q4.cons_cons nm
      · rcases List.mem_cons.mp hp with rfl | hp
        · exact hn0
        · exact q5 p hp
    · obtain ⟨l', x', y', h', e, q1, q2, q3, q4, q5⟩ := ih l (some (.str nm)) y (h.set i o) H1 F1 hl1 (by omega)
      refine ⟨l', x', y', h', ?_, q1, q2, q3, q4.trans (List.sublist_cons_self _ _), q5⟩
      rw [forL_nx (δ1 := [some (.ref i), some (.ref k), some (.int most), some (.ref r), some (.str nm), y]) (h1 := h) (δ2 := [some (.ref i), some (.ref k), some (.int most), some (.ref r), some (.str nm), y]) (h2 := h.set i o) (by simp)
        (by simp [law_size_b1, e1, h0v]) (ok F1)]
      exact e
theorem law_size_ok {h : LH} {i k : Nat} {names : List Str} {most : Int} (hm0 : 0 < most) (hm : most ≤ 10 ^ 58) (H : Hand h i) (hk : h[k]? = some (.lst (names.map .str))) (hki : k ≠ i) (N : Names names) (hz : names.length ≤ 1000) :
    ∃ l h', F_law_size [.ref i, .ref k, .int most] h = some (.ok (dp l) h') ∧ Hand h' i ∧ Fr i h h' ∧ IsDim l ∧ (∀ p ∈ l, p.2.natAbs ≤ most.natAbs) ∧ l.length ≤ names.length := by
  have hil := H.lt
  have hkl := (List.getElem?_eq_some_iff.mp hk).1
  have hr : (h ++ [LO.lst []])[h.length]? = some (.lst (([] : List (Str × Int)).map di)) := by simp
  have hk1 : (h ++ [LO.lst []])[k]? = some (.lst (names.map .str)) := by rw [List.getElem?_append_left hkl]; exact hk
  obtain ⟨l, x, y, h', e, q1, q2, q3, q4, q5⟩ := size_loop (i := i) (k := k) (r := h.length) (names := names) (h0 := h) hm0 hm hki (Nat.le_refl _) hil (by omega) hk names [] none none (h ++ [.lst []]) H.app Fr.app hr (by simpa using hz)
  rw [List.nil_append] at q3
  have s1 : law_size_s1 [some (.ref i), some (.ref k), some (.int most), none, none, none] h = some (.nx [some (.ref i), some (.ref k), some (.int most), some (.ref h.length), none, none] (h ++ [.lst []])) := by simp [law_size_s1]
  have s2 : law_size_s2 [some (.ref i), some (.ref k), some (.int most), some (.ref h.length), none, none] (h ++ [.lst []]) = some (.nx [some (.ref i), some (.ref k), some (.int most), some (.ref h.length), x, y] h') := by
    unfold law_size_s2
    rw [sFor_ap, iSeq_ap, eV_1]
    simp only [bnd_ok, seqOf_lst hk1, ri_some, bndS_ok]
    exact e
  have s3 : law_size_s3 [some (.ref i), some (.ref k), some (.int most), some (.ref h.length), x, y] h' = some (.rt (dp l) h') := by
    simp [law_size_s3, gTuple_lst q3, dp_eq]
  obtain ⟨h'', e2, H2, F2⟩ := gc_hand (d := dp l) hil q1 q2
  have sn := sub_names N q4
  have ll : l.length ≤ names.length := by have := q4.length_le; simpa using this
  refine ⟨l, h'', ?_, H2, F2, ⟨fun p hp => sn.nm p.1 (List.mem_map_of_mem hp), sn.asc, fun p hp => (q5 p hp).1, by omega⟩, fun p hp => (q5 p hp).2, ll⟩
  exact (fnD_eq _ _ _ _ (r := some (.rt (dp l) h')) (show D_law_size [some (.ref i), some (.ref k), some (.int most), none, none, none] h = _ from (seq_nx s1).trans ((seq_nx s2).trans s3))).trans e2
end KK

namespace KK
open PySem PySem.Spec PyProof.Rows L2 DL
theorem ne_rD (x : Rat) (h : LH) : gNe (rD x) (rD x) h = some (.bl false, h) := by
  have p : (rD x).pyH h = some (.tuple [.int x.num, .int (x.den : Int)]) := by simp [rD, D.pyH, D.py, D.pys]
  have sh : SeqAt.shaped (.tuple [.int x.num, .int (x.den : Int)]) = true := by
    unfold SeqAt.shaped
    simp [PyData.canLay0, PyData.canLayAll0, PyData.depth, PyData.depthAll]
  have e : eqD h (rD x) (rD x) = some true := by
    unfold eqD
    simp only [rD] at p ⊢
    simp only [p, sh, and_self, if_true]
    simp [PyData.eqv, PyData.eqvAll]
  unfold gNe
  rw [e]
  rfl
theorem law_is_int (n : Nat) (a : Int) (h : LH) : F_law_is (n + 1) [.int a, .int a] h = some (.ok (.bl true) h) := by
  show fnD 4 (D_law_is (F_law_is n)) _ _ = _
  simp [fnD_ap, D_law_is, law_is_s1, law_is_s2, law_is_s3, law_is_s4, isiB, gIs, gIsN]
theorem law_is_rD (n : Nat) (x : Rat) (h : LH) : F_law_is (n + 2) [rD x, rD x] h = some (.ok (.bl true) h) := by
  show fnD 4 (D_law_is (F_law_is (n + 1))) _ _ = _
  have e := all_comp (m := iZip (aCons (eV 0) (aCons (eV 1) (aNil)))) (own := [2, 3]) (g := Tg.g (.tup ((.nm 2) :: (.nm 3) :: []))) (e := law_is_e1 (F_law_is (n + 1))) (δ := [some (rD x), some (rD x), none, none]) (h := h) (h1 := h) (it := ⟨zipD [.int x.num, .int (x.den : Int)] [.int x.num, .int (x.den : Int)], []⟩) (fun _ => true)
    (by rfl) (fun _ => ok_nil)
    (fun d hd y => by
      simp only [zipD, List.zipWith_cons_cons, List.zipWith_nil_left, List.mem_cons, List.not_mem_nil, or_false] at hd
      rcases hd with rfl | rfl
      · exact ⟨[some (rD x), some (rD x), some (.int x.num), some (.int x.num)], by simp, by simp [law_is_e1, law_is_int]⟩
      · exact ⟨[some (rD x), some (rD x), some (.int (x.den : Int)), some (.int (x.den : Int))], by simp, by simp [law_is_e1, law_is_int]⟩)
    (by show (2 : Nat) ≤ _; decide)
  have t : ∀ h : LH, tyN (rD x) h = some "tuple" := fun _ => rfl
  have l : ∀ h : LH, gLen [rD x] h = some (.int 2, h) := fun _ => rfl
  simp at e
  simp [fnD_ap, D_law_is, law_is_s1, law_is_s5, law_is_s6, law_is_s7, t, l, isiB, e]
theorem sz_wsum {a b : Nat} {wl : List (Str × Rat)} (hw : ∀ p ∈ wl, sz (a + 1) p.2) : ∀ (dl : List (Str × Int)), (∀ p ∈ dl, p.2.natAbs < 2 ^ (b + 1)) → sz (1 + dl.length * (a + b + 3)) (wsum (wOf wl) dl)
  | [], _ => by
    rw [List.length_nil, Nat.zero_mul]
    exact sz_zero 0
  | p :: dl, h => by
    have ih := sz_wsum hw dl (fun q hq => h q (List.mem_cons_of_mem _ hq))
    have h1 := sz_mul (sz_wOf hw p.1) (sz_int (h p List.mem_cons_self))
    refine sz_mono (sz_add h1 ih) ?_
    rw [List.length_cons, Nat.succ_mul]
    omega
/-! refused -/
theorem refused_weights {d s : D} {h : LH} (e : F_are_weights [d] h = some (.ok (.bl false) h)) : F_law_refused [d, s] h = some (.ok (.str "weights") h) := by
  have w : F_weighs [d, s] h = some (.exc ⟨"NoWeights", none⟩ h) := by
    simp [F_weighs, D_weighs, fnD_ap, weighs_s1, e]
  have b : law_refused_b1 [some d, some s, some (.str "none")] h = some (.ex ⟨"NoWeights", none⟩ [some d, some s, some (.str "none")] h) := by
    simp [law_refused_b1, w]
  have t : law_refused_s2 [some d, some s, some (.str "none")] h = some (.nx [some d, some s, some (.str "weights")] h) := by
    unfold law_refused_s2 sTry
    rw [b]
    simp [pick, noEx]
  simp only [F_law_refused, fnD_ap, D_law_refused]
  have i : initD 3 [d, s] = [some d, some s, none] := rfl
  rw [i, seq_nx (δ' := [some d, some s, some (.str "none")]) (h' := h) (by simp [law_refused_s1]), seq_nx t]
  simp [law_refused_s3]
theorem refused_size {wl : List (Str × Rat)} {s : D} {h : LH} (W : IsW wl) (e : F_is_dimension [s] h = some (.ok (.bl false) h)) : F_law_refused [wp wl, s] h = some (.ok (.str "size") h) := by
  have c : F_check_dimension [s] h = some (.exc ⟨"NoDimension", none⟩ h) := by
    simp [F_check_dimension, D_check_dimension, fnD_ap, e]
  have w : F_weighs [wp wl, s] h = some (.exc ⟨"NoDimension", none⟩ h) := by
    simp [F_weighs, D_weighs, fnD_ap, weighs_s1, weighs_s2, are_weights_ok W, c]
  have b : law_refused_b1 [some (wp wl), some s, some (.str "none")] h = some (.ex ⟨"NoDimension", none⟩ [some (wp wl), some s, some (.str "none")] h) := by
    simp [law_refused_b1, w]
  have t : law_refused_s2 [some (wp wl), some s, some (.str "none")] h = some (.nx [some (wp wl), some s, some (.str "size")] h) := by
    unfold law_refused_s2 sTry
    rw [b]
    simp [pick, noEx, show ¬ (Str.ofString "NoDimension" = Str.ofString "NoWeights") from by decide]
  simp only [F_law_refused, fnD_ap, D_law_refused]
  have i : initD 3 [wp wl, s] = [some (wp wl), some s, none] := rfl
  rw [i, seq_nx (δ' := [some (wp wl), some s, some (.str "none")]) (h' := h) (by simp [law_refused_s1]), seq_nx t]
  simp [law_refused_s3]
/-! what are no named pairs -/
theorem named_not {d : D} {h : LH} {t : String} (e : tyN d h = some t) (ht : t ≠ "tuple") : F_are_named_pairs [d] h = some (.ok (.bl false) h) := by
  have : isiB t "tuple" = false := by unfold isiB; simp [ht]
  simp [F_are_named_pairs, D_are_named_pairs, fnD_ap, are_named_pairs_s1, e, this]
theorem named_pair {ps : List D} (P : D → Bool) (hP : ∀ d ∈ ps, ∀ h : LH, are_named_pairs_e1 [some (.tup ps), some d, none] h = some (.ok (.bl (P d)) h)) (hf : ps.all P = false) (hz : ps.length ≤ sizeLine) (h : LH) : F_are_named_pairs [.tup ps] h = some (.ok (.bl false) h) := by
  have e1 := all_comp (m := iSeq (eV 0)) (own := [1]) (g := Tg.g (.nm 1)) (e := are_named_pairs_e1) (δ := [some (.tup ps), none, none]) (h := h) (h1 := h) (it := ⟨ps, []⟩) P rfl (fun _ => ok_nil)
    (fun d hd x => ⟨[some (.tup ps), some d, none], by simp, hP d hd _⟩) hz
  rw [hf] at e1
  have s1 : are_named_pairs_s1 [some (.tup ps), none, none] h = some (.nx [some (.tup ps), none, none] h) := by simp [are_named_pairs_s1, isiB]
  simp only [F_are_named_pairs, fnD_ap, D_are_named_pairs]
  have i : initD 3 [D.tup ps] = [some (.tup ps), none, none] := rfl
  rw [i, seq_nx s1]
  have s2 : are_named_pairs_s2 [some (.tup ps), none, none] h = some (.rt (.bl false) (h ++ [.lst (ps.map fun d => .bl (P d))])) := by
    unfold are_named_pairs_s2
    rw [sIf_ap, tNot_ap, tV_ap, e1]
    simp
  rw [seq_rt s2]
  simp
theorem weights_named {d : D} {h : LH} (e : F_are_named_pairs [d] h = some (.ok (.bl false) h)) : F_are_weights [d] h = some (.ok (.bl false) h) := by
  simp [F_are_weights, D_are_weights, fnD_ap, e]
theorem dim_named {d : D} {h : LH} (e : F_are_named_pairs [d] h = some (.ok (.bl false) h)) : F_is_dimension [d] h = some (.ok (.bl false) h) := by
  simp [F_is_dimension, D_is_dimension, fnD_ap, e]
theorem weights_one {b : Str} {d : D} (hb : isName b = true) (he : ∀ h : LH, are_weights_e1 [some (np [(b, d)]), some (.str b), some d] h = some (.ok (.bl false) h)) (h : LH) : F_are_weights [np [(b, d)]] h = some (.ok (.bl false) h) := by
  have e0 := named_ok [(b, d)] (fun p hp => by simp at hp; subst hp; exact hb) (by simp) h
  have e1 := all_comp (m := iSeq (eV 0)) (own := [1, 2]) (g := Tg.g (.tup ((.nm 1) :: (.nm 2) :: []))) (e := are_weights_e1) (δ := [some (np [(b, d)]), none, none]) (h := h) (h1 := h) (it := ⟨[.tup [.str b, d]], []⟩) (fun _ => false) rfl (fun _ => ok_nil)
    (fun d' hd x => by
      simp at hd
      subst hd
      exact ⟨[some (np [(b, d)]), some (.str b), some d], by simp, he _⟩) (by show (1 : Nat) ≤ _; decide)
  have a : ascB (List.map (fun x => x.fst) [(b, d)]) = true := rfl
  rw [a] at e0
  simp at e1
  simp [F_are_weights, D_are_weights, fnD_ap, e0, e1]
theorem dim_one {b : Str} {d : D} (hb : isName b = true) (he : ∀ h : LH, is_dimension_e1 [some (np [(b, d)]), some (.str b), some d] h = some (.ok (.bl false) h)) (h : LH) : F_is_dimension [np [(b, d)]] h = some (.ok (.bl false) h) := by
  have e0 := named_ok [(b, d)] (fun p hp => by simp at hp; subst hp; exact hb) (by simp) h
  have e1 := all_comp (m := iSeq (eV 0)) (own := [1, 2]) (g := Tg.g (.tup ((.nm 1) :: (.nm 2) :: []))) (e := is_dimension_e1) (δ := [some (np [(b, d)]), none, none]) (h := h) (h1 := h) (it := ⟨[.tup [.str b, d]], []⟩) (fun _ => false) rfl (fun _ => ok_nil)
    (fun d' hd x => by
      simp at hd
      subst hd
      exact ⟨[some (np [(b, d)]), some (.str b), some d], by simp, he _⟩) (by show (1 : Nat) ≤ _; decide)
  have a : ascB (List.map (fun x => x.fst) [(b, d)]) = true := rfl
  rw [a] at e0
  simp at e1
  simp [F_is_dimension, D_is_dimension, fnD_ap, e0, e1]
theorem aName : isName "a" = true := by decide +kernel
theorem bName : isName "b" = true := by decide +kernel
theorem wrong1 (h : LH) : F_are_weights [.tup [.tup [.str "a", .tup [.int 0, .int 1]]]] h = some (.ok (.bl false) h) :=
  weights_one (b := "a") (d := .tup [.int 0, .int 1]) aName (fun h => by
    have := is_fraction_ok 0 h
    rw [rD_zero] at this
    simp [are_weights_e1, this]) h
theorem wrong2 (h : LH) : F_are_weights [.tup [.tup [.str "a", .tup [.int 2, .int 4]]]] h = some (.ok (.bl false) h) :=
  weights_one (b := "a") (d := .tup [.int 2, .int 4]) aName (fun h => by
    have g := divisor_abs 2 4 h
    have : Int.gcd 2 4 = 2 := by decide
    rw [this] at g
    have f : F_is_fraction [.tup [.int 2, .int 4]] h = some (.ok (.bl false) h) := by
      simp at g
      simp [F_is_fraction, D_is_fraction, fnD_ap, is_fraction_s1, is_fraction_s2, isiB, is_integer_int, g]
    simp [are_weights_e1, f]) h
theorem wrong3 (h : LH) : F_are_weights [.tup [.tup [.str "a", .int 1]]] h = some (.ok (.bl false) h) :=
  weights_one (b := "a") (d := .int 1) aName (fun h => by
    have f : F_is_fraction [.int 1] h = some (.ok (.bl false) h) := by
      simp [F_is_fraction, D_is_fraction, fnD_ap, is_fraction_s1, is_fraction_s2, isiB]
    simp [are_weights_e1, f]) h
theorem wrong10 (h : LH) : F_are_weights [.tup [.tup [.str "a", .tup [.int 1, .int 0]]]] h = some (.ok (.bl false) h) :=
  weights_one (b := "a") (d := .tup [.int 1, .int 0]) aName (fun h => by
    have f : F_is_fraction [.tup [.int 1, .int 0]] h = some (.ok (.bl false) h) := by
      simp [F_is_fraction, D_is_fraction, fnD_ap, is_fraction_s1, is_fraction_s2, isiB, is_integer_int]
    simp [are_weights_e1, f]) h
theorem wrong5 (d e : D) (h : LH) : F_are_named_pairs [.tup [.tup [.str "b", d], .tup [.str "a", e]]] h = some (.ok (.bl false) h) := by
  have := named_ok [("b", d), ("a", e)] (fun p hp => by simp at hp; rcases hp with rfl | rfl; exact bName; exact aName) (by simp) h
  have a : ascB (List.map (fun x => x.fst) [((Str.ofString "b"), d), (Str.ofString "a", e)]) = false := by
    show (ltS (Str.ofString "b") (Str.ofString "a") && true) = false
    decide +kernel
  rw [a] at this
  exact this
theorem wrong6 (d e : D) (h : LH) : F_are_named_pairs [.tup [.tup [.str "a", d], .tup [.str "a", e]]] h = some (.ok (.bl false) h) := by
  have := named_ok [("a", d), ("a", e)] (fun p hp => by simp at hp; rcases hp with rfl | rfl <;> exact aName) (by simp) h
  have a : ascB (List.map (fun x => x.fst) [((Str.ofString "a"), d), (Str.ofString "a", e)]) = false := by
    show (ltS (Str.ofString "a") (Str.ofString "a") && true) = false
    decide +kernel
  rw [a] at this
  exact this
theorem name_A (h : LH) : F_is_name [.str "A"] h = some (.ok (.bl false) h) := by
  have no : gIn (.str ⟨#[65]⟩) (.str "abcdefghijklmnopqrstuvwxyz") = fun h => some (.bl false, h) := by
    funext h
    simp only [gIn, inD]
    rw [show (!(Builtin.Str.occurrences "abcdefghijklmnopqrstuvwxyz" ⟨#[65]⟩ 0 (Str.ofString "abcdefghijklmnopqrstuvwxyz").length 1).isEmpty) = false from by decide +kernel]
    rfl
  have e := all_comp (m := iSeq (eV 0)) (own := [1]) (g := Tg.g (.nm 1)) (e := is_name_e1) (δ := [some (.str "A"), none]) (h := h) (h1 := h) (it := ⟨(Str.ofString "A").cps.toList.map fun c => .str ⟨#[c]⟩, []⟩) (fun _ => false) rfl (fun _ => ok_nil)
    (fun d hd x => by
      have : (Str.ofString "A").cps.toList = [65] := by decide +kernel
      rw [this] at hd
      simp at hd
      subst hd
      exact ⟨[some (.str "A"), some (.str ⟨#[65]⟩)], by simp, by simp [is_name_e1, no]⟩)
    (by rw [List.length_map, show (Str.ofString "A").cps.toList = [65] from by decide +kernel]; decide)
  have f : (((Str.ofString "A").cps.toList.map fun c => D.str ⟨#[c]⟩).all fun _ => false) = false := by
    rw [show (Str.ofString "A").cps.toList = [65] from by decide +kernel]; rfl
  rw [f] at e
  have gl : gLen [.str "A"] h = some (.int 1, h) := by
    unfold gLen
    have : (Str.ofString "A").length = 1 := by decide +kernel
    simp [this]
    decide
  simp [F_is_name, D_is_name, fnD_ap, isiB, gl]
  simp at e
  rw [e]
  simp
theorem wrong7 (d : D) (h : LH) : F_are_named_pairs [.tup [.tup [.str "A", d]]] h = some (.ok (.bl false) h) :=
  named_pair (fun _ => false) (fun x hx h => by
    simp at hx
    subst hx
    simp [are_named_pairs_e1, isiB, name_A]) rfl (by show (1 : Nat) ≤ _; decide) h
theorem wrong8 (h : LH) : F_are_named_pairs [.tup [.tup [.str "a"]]] h = some (.ok (.bl false) h) :=
  named_pair (fun _ => false) (fun x hx h => by
    simp at hx
    subst hx
    simp [are_named_pairs_e1, isiB]) rfl (by show (1 : Nat) ≤ _; decide) h
theorem wrongd1 (h : LH) : F_is_dimension [.tup [.tup [.str "a", .int 0]]] h = some (.ok (.bl false) h) :=
  dim_one (b := "a") (d := .int 0) aName (fun h => by simp [is_dimension_e1, is_integer_int]) h
theorem wrongd5 (h : LH) : F_is_dimension [.tup [.tup [.str "a", .bl true]]] h = some (.ok (.bl false) h) :=
  dim_one (b := "a") (d := .bl true) aName (fun h => by simp [is_dimension_e1, is_integer_bl]) h
end KK

namespace KK
open PySem PySem.Spec PyProof.Rows L2 DL
theorem lk_of {α : Type} : ∀ {l : List (Str × α)} {p : Str × α}, (l.map (·.1)).Nodup → p ∈ l → lk l p.1 = some p.2
  | q :: l, p, hn, hp => by
    rw [List.map_cons, List.nodup_cons] at hn
    rw [lk_cons]
    rcases List.mem_cons.mp hp with rfl | hp
    · rw [if_pos rfl]
    · rw [if_neg]
      · exact lk_of hn.2 hp
      · intro e
        exact hn.1 (e ▸ List.mem_map_of_mem (f := (·.1)) hp)
theorem lk_none {α : Type} {l : List (Str × α)} {b : Str} (h : b ∉ l.map (·.1)) : lk l b = none := by
  cases q : lk l b with
  | none => rfl
  | some x => exact absurd (List.mem_map_of_mem (f := (·.1)) (lk_mem q)) h
theorem wOf_of {l : List (Str × Rat)} {p : Str × Rat} (W : IsW l) (hp : p ∈ l) : wOf l p.1 = p.2 := by
  unfold wOf
  rw [lk_of (ascB_nodup W.asc) hp]
  rfl
theorem dim_single {b : Str} {n : Int} (hb : isName b = true) (hn : n ≠ 0) : IsDim [(b, n)] := ⟨fun p hp => by simp at hp; subst hp; exact hb, rfl, fun p hp => by simp at hp; subst hp; exact hn, by simp⟩
theorem name_ok {z : Str} (h : isName z = true) : PyData.strOk z = true := by
  unfold isName at h
  simp only [Bool.and_eq_true, decide_eq_true_eq, List.all_eq_true] at h
  unfold PyData.strOk
  rw [← Array.all_toList, List.all_eq_true]
  intro c hc
  have := h.2 c hc
  exact decide_eq_true (by omega)
theorem wsum_nil (dl : List (Str × Int)) : wsum (wOf []) dl = 0 := by
  induction dl with
  | nil => rfl
  | cons p dl ih =>
    show wOf [] p.1 * (p.2 : Rat) + wsum (wOf []) dl = 0
    rw [ih]
    show (0 : Rat) * _ + 0 = 0
    rw [Rat.zero_mul, Rat.add_zero]
theorem w_nil : IsW [] := ⟨by simp, rfl, by simp, by simp⟩
theorem d_nil : IsDim [] := ⟨by simp, rfl, by simp, by simp⟩
section
variable {wl : List (Str × Rat)} (W : IsW wl) (hw : ∀ p ∈ wl, sz 20 p.2)
include W hw
theorem weighs_at {b : Nat} {dl : List (Str × Int)} (I : IsDim dl) (hd : ∀ p ∈ dl, p.2.natAbs < 2 ^ (b + 1)) (hs : 1 + dl.length * (19 + b + 3) < 7000) (h : LH) : F_weighs [wp wl, dp dl] h = some (.ok (rD (wsum (wOf wl) dl)) h) := weighs_ok (a := 19) W I hw hd hs h
theorem law_b1_ok {p : Str × Rat} (hp : p ∈ wl) {a b c d e f g k l x y z v : Option D} (h : LH) : law_b1 [a, b, c, some (wp wl), d, e, f, g, k, l, some (.str p.1), some (rD p.2), x, y, z, v] h = some (.nx [a, b, c, some (wp wl), d, e, f, g, k, l, some (.str p.1), some (rD p.2), x, y, z, v] h) := by
  have e1 := weighs_at W hw (b := 3) (dim_single (W.nm p hp) (show (1 : Int) ≠ 0 by decide)) (fun q hq => by simp at hq; subst hq; show (1 : Int).natAbs < 2 ^ 4; decide) (by simp) h
  have e2 := weighs_at W hw (b := 3) (dim_single (W.nm p hp) (show (-3 : Int) ≠ 0 by decide)) (fun q hq => by simp at hq; subst hq; show (-3 : Int).natAbs < 2 ^ 4; decide) (by simp) h
  have s1 : wsum (wOf wl) [(p.1, 1)] = p.2 := by
    show wOf wl p.1 * ((1 : Int) : Rat) + 0 = p.2
    rw [wOf_of W hp, Rat.add_zero]
    show p.2 * 1 = p.2
    rw [Rat.mul_one]
  have s2 : wsum (wOf wl) [(p.1, -3)] = p.2 * ((-3 : Int) : Rat) := by
    show wOf wl p.1 * ((-3 : Int) : Rat) + 0 = _
    rw [wOf_of W hp, Rat.add_zero]
  rw [s1] at e1
  rw [s2] at e2
  have t := times_ok (hw p hp) (sz_int (n := -3) (k := 3) (by decide)) (by decide) h
  rw [rD_int] at t
  have d1 : dp [(p.1, 1)] = .tup [.tup [.str p.1, .int 1]] := rfl
  have d2 : dp [(p.1, -3)] = .tup [.tup [.str p.1, .int (-3)]] := rfl
  rw [d1] at e1
  rw [d2] at e2
  simp [law_b1, e1, e2, t, ne_rD]
theorem law_s16_ok {a b c d e f g k l x y z v : Option D} (h : LH) : ∀ (rest : List (Str × Rat)) (r s : Option D), (∀ p ∈ rest, p ∈ wl) → ∃ r' s', forL ⟨wl.map wi, []⟩ (gTup ((gN 10) :: (gN 11) :: [])) law_b1 (rest.map wi) [a, b, c, some (wp wl), d, e, f, g, k, l, r, s, x, y, z, v] h = some (.nx [a, b, c, some (wp wl), d, e, f, g, k, l, r', s', x, y, z, v] h)
  | [], r, s, _ => ⟨r, s, rfl⟩
  | p :: rest, r, s, hp => by
    obtain ⟨r', s', q⟩ := law_s16_ok h rest (some (.str p.1)) (some (rD p.2)) (fun q hq => hp q (List.mem_cons_of_mem _ hq))
    refine ⟨r', s', ?_⟩
    rw [List.map_cons, forL_nx (δ1 := [a, b, c, some (wp wl), d, e, f, g, k, l, some (.str p.1), some (rD p.2), x, y, z, v]) (h1 := h) (by simp [wi]) (law_b1_ok W hw (hp p List.mem_cons_self) h) ok_nil]
    exact q
end
/-- the first seven letters: one lacks -/
def seven : List Str := ["a", "b", "c", "d", "e", "f", "g"]
theorem seven_lack {names : List Str} (h : names.length ≤ 6) : ∃ b r, seven.filter (fun b => !decide (b ∈ names)) = b :: r := by
  cases q : seven.filter (fun b => !decide (b ∈ names)) with
  | cons b r => exact ⟨b, r, rfl⟩
  | nil =>
    exfalso
    have all : ∀ b ∈ seven, b ∈ names := fun b hb => by
      have := List.filter_eq_nil_iff.mp q b hb
      simpa using this
    have nd : seven.Nodup := by decide +kernel
    have : seven.length ≤ names.length := nd.length_le_of_subset all
    have : seven.length = 7 := rfl
    omega
theorem seven_names : ∀ b ∈ seven, isName b = true := by decide +kernel
theorem not_in {h : LH} {k : Nat} {names : List Str} {b : Str} (N : Names names) (hb : isName b = true) (e : h[k]? = some (.lst (names.map .str))) : gNotIn (.str b) (.ref k) h = some (.bl (!decide (b ∈ names)), h) := by
  unfold gNotIn
  rw [in_strs e (fun x hx => name_ok (N.nm x hx)) (name_ok hb)]
  rfl
theorem refused_at {d s : D} {h : LH} {a b c w f g k l m x y z u v : Option D} (e : F_are_weights [d] h = some (.ok (.bl false) h)) : law_b2 [a, b, c, w, f, some s, g, k, l, m, x, y, z, u, some d, v] h = some (.nx [a, b, c, w, f, some s, g, k, l, m, x, y, z, u, some d, v] h) := by
  simp [law_b2, refused_weights e]
/-- the law says True -/
theorem law_true (ns : List Int) (hl : ns.length ≤ 63) (hb : ∀ z ∈ ns, Builtin.Int.intBits z ≤ 1048576) : ∃ lh, F_law [.ref 0] [.rls (ns.map D.int)] = some (.ok (.bl true) lh) := by
  obtain ⟨h1, i, e1, H1⟩ := law_hand_ok ns hl
  obtain ⟨v, o, e2, v0, v1, H2⟩ := draw (many := 6) H1 (by decide) (by decide)
  obtain ⟨names, h3, k, e3, hk3, hki, hk1, N, hn, H3, F3⟩ := law_names_ok (many := 1 + v) H2 (by omega) (by omega)
  have hn6 : names.length ≤ 6 := by omega
  obtain ⟨wl, h4, e4, H4, F4, W, hw, hsub⟩ := law_weights_ok H3 hk3 hki N (by omega)
  have hk4 := F4.get hk3 hki
  obtain ⟨u, o5, e5, u0, u1, H5⟩ := draw (many := 4) H4 (by decide) (by decide)
  have hk5 : (h4.set i o5)[k]? = some (.lst (names.map .str)) := (Fr.set (i := i)).get hk4 hki
  obtain ⟨most, m0, m1, s5⟩ : ∃ most : Int, 0 < most ∧ most ≤ 10 ^ 58 ∧ law_s5 [some (.ref 0), some (.ref i), some (.ref k), some (wp wl), some (.int 9), none, none, none, none, none, none, none, none, none, none, none] h4 = some (.nx [some (.ref 0), some (.ref i), some (.ref k), some (wp wl), some (.int most), none, none, none, none, none, none, none, none, none, none, none] (h4.set i o5)) := by
    by_cases hu : u = 0
    · refine ⟨10 ^ 58, by decide, Int.le_refl _, ?_⟩
      have p : ∀ h : LH, gPow (.int 10) (.int 58) h = some (.int (10 ^ 58), h) := fun h => gPow_nat 10 58 h (by decide) (by decide)
      simp [law_s5, e5, hu, p]
    · exact ⟨9, by decide, by decide, by simp [law_s5, e5, hu]⟩
  obtain ⟨one, h6, e6, H6, F6, I1, b1, l1⟩ := law_size_ok m0 m1 H5 hk5 hki N (by omega)
  have hk6 := F6.get hk5 hki
  obtain ⟨other, h7, e7, H7, F7, I2, b2, l2⟩ := law_size_ok m0 m1 H6 hk6 hki N (by omega)
  have hk7 := F7.get hk6 hki
  obtain ⟨x, o8, e8, x0, x1, H8⟩ := draw (many := 201) H7 (by decide) (by decide)
  have hk8 : (h7.set i o8)[k]? = some (.lst (names.map .str)) := (Fr.set (i := i)).get hk7 hki
  generalize hh : h7.set i o8 = h at e8 H8 hk8
  generalize hx : x - 100 = many
  have many0 : -100 ≤ many := by omega
  have many1 : many ≤ 100 := by omega
  have big : (10 : Nat) ^ 58 < 2 ^ 200 := by decide
  have c1 : ∀ p ∈ one, p.2.natAbs < 2 ^ 200 := fun p hp => Nat.lt_of_le_of_lt (Nat.le_trans (b1 p hp) (by omega : most.natAbs ≤ 10 ^ 58)) big
  have c2 : ∀ p ∈ other, p.2.natAbs < 2 ^ 200 := fun p hp => Nat.lt_of_le_of_lt (Nat.le_trans (b2 p hp) (by omega : most.natAbs ≤ 10 ^ 58)) big
  have few : one.length + other.length ≤ 12 := by omega
  have w1 := weighs_at W hw (b := 199) I1 c1 (by have : one.length * (19 + 199 + 3) ≤ 6 * (19 + 199 + 3) := Nat.mul_le_mul_right _ (by omega); omega)
  have w2 := weighs_at W hw (b := 199) I2 c2 (by have : other.length * (19 + 199 + 3) ≤ 6 * (19 + 199 + 3) := Nat.mul_le_mul_right _ (by omega); omega)
  have lw1 := law_weighed_ok (a := 19) (b := 199) W hw c1 (by have : one.length * (19 + 199 + 3) ≤ 6 * (19 + 199 + 3) := Nat.mul_le_mul_right _ (by omega); omega)
  have lw2 := law_weighed_ok (a := 19) (b := 199) W hw c2 (by have : other.length * (19 + 199 + 3) ≤ 6 * (19 + 199 + 3) := Nat.mul_le_mul_right _ (by omega); omega)
  have z1 := sz_mono (sz_wsum (a := 19) (b := 199) hw one c1) (show 1 + one.length * (19 + 199 + 3) ≤ 1400 by have : one.length * (19 + 199 + 3) ≤ 6 * (19 + 199 + 3) := Nat.mul_le_mul_right _ (by omega); omega)
  have z2 := sz_mono (sz_wsum (a := 19) (b := 199) hw other c2) (show 1 + other.length * (19 + 199 + 3) ≤ 1400 by have : other.length * (19 + 199 + 3) ≤ 6 * (19 + 199 + 3) := Nat.mul_le_mul_right _ (by omega); omega)
  have nd1 := ascB_nodup I1.asc
  -- together, apart
  have tg : ∀ s : Int, s.natAbs ≤ 1 → IsDim (tog (addAll s one other)) ∧ ∀ h : LH, F_weighs [wp wl, dp (tog (addAll s one other))] h = some (.ok (rD (wsum (wOf wl) one + (s : Rat) * wsum (wOf wl) other)) h) := fun s hs => by
    have hlen := addAll_len s other one
    have I := tog_dim (addAll_nodup s other one nd1) (addAll_names I1 I2) (by omega)
    have sm := tog_small (addAll_small hs other one 0 (k := 200) (by simpa using c1) c2)
    have hl2 := tog_len (addAll s one other)
    have up : (2 : Nat) ^ (200 + 0 + other.length) ≤ 2 ^ (206 + 1) := Nat.pow_le_pow_right (by decide) (by omega)
    refine ⟨I, fun h => ?_⟩
    have := weighs_at W hw (b := 206) I (fun p hp => Nat.lt_of_lt_of_le (sm p hp) up) (by have : (tog (addAll s one other)).length * (19 + 206 + 3) ≤ 12 * (19 + 206 + 3) := Nat.mul_le_mul_right _ (by omega); omega) h
    rw [tog_wsum _ (addAll_nodup s other one nd1), addAll_wsum _ s other one nd1] at this
    exact this
  have t1 := (tg 1 (by decide)).2 h
  have t2 := (tg (-1) (by decide)).2 h
  have q1 : wsum (wOf wl) one + ((1 : Int) : Rat) * wsum (wOf wl) other = wsum (wOf wl) one + wsum (wOf wl) other := by
    show _ + (1 : Rat) * _ = _
    rw [Rat.one_mul]
  have q2 : wsum (wOf wl) one + ((-1 : Int) : Rat) * wsum (wOf wl) other = wsum (wOf wl) one - wsum (wOf wl) other := by
    show _ + (-1 : Rat) * _ = _
    grind
  rw [q1] at t1
  rw [q2] at t2
  have pl := plus_ok z1 z2 (by decide) h
  have le := less_ok z1 z2 (by decide) h
  have tgo := together_ok I1 I2 (by omega) h
  have apo := apart_ok I1 I2 (by omega) h
  -- raised
  have ra := raised_ok I1 many0 many1 h
  have rb := weighs_at W hw (b := 207) (rai_dim I1 many) (fun p hp => by
    unfold rai at hp
    split at hp
    · simp at hp
    · obtain ⟨q, hq, rfl⟩ := List.mem_map.mp hp
      show (q.2 * many).natAbs < 2 ^ (200 + 8)
      rw [Int.natAbs_mul]
      exact mul_lt_pow (c1 q hq) (by omega)) (by
    have : (rai one many).length ≤ one.length := by unfold rai; split <;> simp
    have : (rai one many).length * (19 + 207 + 3) ≤ 6 * (19 + 207 + 3) := Nat.mul_le_mul_right _ (by omega)
    omega) h
  rw [wsum_rai] at rb
  have ti := times_ok z1 (sz_int (n := many) (k := 7) (by omega)) (by decide) h
  rw [rD_int] at ti
  -- (): nothing
  have n1 := weighs_at W hw (b := 3) d_nil (by simp) (by simp) h
  have n2 := weighs_ok (a := 19) (b := 199) w_nil I1 (by simp) c1 (by have : one.length * (19 + 199 + 3) ≤ 6 * (19 + 199 + 3) := Nat.mul_le_mul_right _ (by omega); omega) h
  rw [wsum_nil] at n2
  have n1' : F_weighs [wp wl, .tup []] h = some (.ok (rD 0) h) := n1
  have n2' : F_weighs [.tup [], dp one] h = some (.ok (rD 0) h) := n2
  have nz : ∀ h : LH, gNe (rD 0) (.tup [.int 0, .int 1]) h = some (.bl false, h) := fun h => by rw [← rD_zero]; exact ne_rD 0 h
  -- the absent one
  obtain ⟨ab, rest, habs⟩ := seven_lack hn6
  have abm : ab ∈ seven.filter (fun b => !decide (b ∈ names)) := by rw [habs]; exact List.mem_cons_self
  have ab7 := (List.mem_filter.mp abm).1
  have abn : ab ∉ names := by have := (List.mem_filter.mp abm).2; simpa using this
  have abw : ab ∉ wl.map (·.1) := fun z => abn (hsub.subset z)
  have a1 := weighs_at W hw (b := 3) (dim_single (seven_names ab ab7) (show (7 : Int) ≠ 0 by decide)) (fun q hq => by simp at hq; subst hq; show (7 : Int).natAbs < 2 ^ 4; decide) (by simp)
  have a2 : wsum (wOf wl) [(ab, 7)] = 0 := by
    show wOf wl ab * _ + 0 = 0
    unfold wOf
    rw [lk_none abw]
    show (0 : Rat) * _ + 0 = 0
    rw [Rat.zero_mul, Rat.add_zero]
  rw [a2] at a1
  have a1' : ∀ h : LH, F_weighs [wp wl, .tup [.tup [.str ab, .int 7]]] h = some (.ok (rD 0) h) := a1
  generalize hmine : wsum (wOf wl) one = mine at *
  generalize hyours : wsum (wOf wl) other = yours at *
  generalize hr0 : [LO.rls (ns.map D.int)] = h0 at *
  have s1 : law_s1 [some (.ref 0), none, none, none, none, none, none, none, none, none, none, none, none, none, none, none] h0 = some (.nx [some (.ref 0), some (.ref i), none, none, none, none, none, none, none, none, none, none, none, none, none, none] h1) := by
    simp [law_s1, e1]
  have s2 : law_s2 [some (.ref 0), some (.ref i), none, none, none, none, none, none, none, none, none, none, none, none, none, none] h1 = some (.nx [some (.ref 0), some (.ref i), some (.ref k), none, none, none, none, none, none, none, none, none, none, none, none, none] h3) := by
    simp [law_s2, e2, e3]
  have s3 : law_s3 [some (.ref 0), some (.ref i), some (.ref k), none, none, none, none, none, none, none, none, none, none, none, none, none] h3 = some (.nx [some (.ref 0), some (.ref i), some (.ref k), some (wp wl), none, none, none, none, none, none, none, none, none, none, none, none] h4) := by
    simp [law_s3, e4]
  have s4 : law_s4 [some (.ref 0), some (.ref i), some (.ref k), some (wp wl), none, none, none, none, none, none, none, none, none, none, none, none] h4 = some (.nx [some (.ref 0), some (.ref i), some (.ref k), some (wp wl), some (.int 9), none, none, none, none, none, none, none, none, none, none, none] h4) := by
    simp [law_s4]
  have s6 : law_s6 [some (.ref 0), some (.ref i), some (.ref k), some (wp wl), some (.int most), none, none, none, none, none, none, none, none, none, none, none] (h4.set i o5) = some (.nx [some (.ref 0), some (.ref i), some (.ref k), some (wp wl), some (.int most), some (dp one), none, none, none, none, none, none, none, none, none, none] h6) := by
    simp [law_s6, e6]
  have s7 : law_s7 [some (.ref 0), some (.ref i), some (.ref k), some (wp wl), some (.int most), some (dp one), none, none, none, none, none, none, none, none, none, none] h6 = some (.nx [some (.ref 0), some (.ref i), some (.ref k), some (wp wl), some (.int most), some (dp one), some (dp other), none, none, none, none, none, none, none, none, none] h7) := by
    simp [law_s7, e7]
  have s8 : law_s8 [some (.ref 0), some (.ref i), some (.ref k), some (wp wl), some (.int most), some (dp one), some (dp other), none, none, none, none, none, none, none, none, none] h7 = some (.nx [some (.ref 0), some (.ref i), some (.ref k), some (wp wl), some (.int most), some (dp one), some (dp other), some (.int many), none, none, none, none, none, none, none, none] h) := by
    simp [law_s8, e8, hx]
  have s9 : law_s9 [some (.ref 0), some (.ref i), some (.ref k), some (wp wl), some (.int most), some (dp one), some (dp other), some (.int many), none, none, none, none, none, none, none, none] h = some (.nx [some (.ref 0), some (.ref i), some (.ref k), some (wp wl), some (.int most), some (dp one), some (dp other), some (.int many), some (rD mine), none, none, none, none, none, none, none] h) := by
    simp [law_s9, w1]
  have s10 : law_s10 [some (.ref 0), some (.ref i), some (.ref k), some (wp wl), some (.int most), some (dp one), some (dp other), some (.int many), some (rD mine), none, none, none, none, none, none, none] h = some (.nx [some (.ref 0), some (.ref i), some (.ref k), some (wp wl), some (.int most), some (dp one), some (dp other), some (.int many), some (rD mine), some (rD yours), none, none, none, none, none, none] h) := by
    simp [law_s10, w2]
  generalize hδ : (fun b s a w t n => [some (.ref 0), some (.ref i), some (.ref k), some (wp wl), some (.int most), some (dp one), some (dp other), some (.int many), some (rD mine), some (rD yours), b, s, a, w, t, n] : Option D → Option D → Option D → Option D → Option D → Option D → DSt) = δ
  have s10' : law_s10 [some (.ref 0), some (.ref i), some (.ref k), some (wp wl), some (.int most), some (dp one), some (dp other), some (.int many), some (rD mine), none, none, none, none, none, none, none] h = some (.nx (δ none none none none none none) h) := by rw [s10, ← hδ]
  have s11 : law_s11 (δ none none none none none none) h = some (.nx (δ none none none none none none) h) := by
    rw [← hδ]; simp [law_s11, lw1, lw2, law_is_rD]
  have s12 : law_s12 (δ none none none none none none) h = some (.nx (δ none none none none none none) h) := by
    rw [← hδ]; simp [law_s12, tgo, t1, pl, ne_rD]
  have s13 : law_s13 (δ none none none none none none) h = some (.nx (δ none none none none none none) h) := by
    rw [← hδ]; simp [law_s13, apo, t2, le, ne_rD]
  have s14 : law_s14 (δ none none none none none none) h = some (.nx (δ none none none none none none) h) := by
    rw [← hδ]; simp [law_s14, ra, rb, ti, ne_rD]
  have s15 : law_s15 (δ none none none none none none) h = some (.nx (δ none none none none none none) h) := by
    rw [← hδ]; simp [law_s15, n1', n2', nz]
  obtain ⟨r', s', l16⟩ := law_s16_ok W hw (a := some (.ref 0)) (b := some (.ref i)) (c := some (.ref k)) (d := some (.int most)) (e := some (dp one)) (f := some (dp other)) (g := some (.int many)) (k := some (rD mine)) (l := some (rD yours)) (x := none) (y := none) (z := none) (v := none) h wl none none (fun p hp => hp)
  have s16 : law_s16 (δ none none none none none none) h = some (.nx (δ r' s' none none none none) h) := by
    rw [← hδ]
    unfold law_s16
    rw [sFor_ap, iSeq_ap, eV_3, wp_eq]
    rw [wp_eq] at l16
    exact l16
  -- the letters
  have kl : k < h.length := (List.getElem?_eq_some_iff.mp hk8).1
  have hs7 : (h ++ [LO.lst (seven.map D.str)])[h.length]? = some (.lst (seven.map .str)) := get_last _ _
  have hk9 : (h ++ [LO.lst (seven.map D.str)])[k]? = some (.lst (names.map .str)) := by rw [List.getElem?_append_left kl]; exact hk8
  have e17 := eComp_pure (m := iSeq (eLst (aCons (eC (.str "a")) (aCons (eC (.str "b")) (aCons (eC (.str "c")) (aCons (eC (.str "d")) (aCons (eC (.str "e")) (aCons (eC (.str "f")) (aCons (eC (.str "g")) (aNil))))))))))
    (own := [15]) (g := Tg.g (.nm 15)) (t := law_t1) (e := law_e1) (δ := δ r' s' none none none none) (h := h) (h1 := h ++ [.lst (seven.map .str)]) (it := ⟨seven.map .str, [(h.length, .lst (seven.map .str))]⟩)
    (fun d => match d with | .str b => !decide (b ∈ names) | _ => false) id
    (by
      have hs7' : (h ++ [LO.lst [D.str "a", .str "b", .str "c", .str "d", .str "e", .str "f", .str "g"]])[h.length]? = some (.lst [D.str "a", .str "b", .str "c", .str "d", .str "e", .str "f", .str "g"]) := get_last _ _
      simp [seqOf_lst hs7']
      rfl) (ok_one hs7)
    (fun d hd x => by
      obtain ⟨b, hb, rfl⟩ := List.mem_map.mp hd
      have hk10 : (h ++ [LO.lst (seven.map D.str)] ++ [x])[k]? = some (.lst (names.map .str)) := by rw [List.getElem?_append_left (List.getElem?_eq_some_iff.mp hk9).1]; exact hk9
      refine ⟨δ r' s' none none none (some (.str b)), by rw [← hδ]; simp, ?_, fun _ => by rw [← hδ]; simp [law_e1]⟩
      rw [← hδ]
      have ni := not_in N (seven_names b hb) hk10
      simp only [List.append_assoc] at ni ⊢
      simp [law_t1]
      simp at ni
      rw [ni]
      simp) (by show (7 : Nat) ≤ _; decide)
  have f17 : ((seven.map D.str).filter (fun d => match d with | .str b => !decide (b ∈ names) | _ => false)).map id = D.str ab :: rest.map D.str := by
    rw [List.map_id, List.filter_map]
    have : (fun d => match d with | .str b => !decide (b ∈ names) | _ => false) ∘ D.str = fun b => !decide (b ∈ names) := rfl
    rw [this, habs]
    rfl
  simp only [f17] at e17
  generalize hh2 : h ++ [LO.lst (seven.map D.str)] = h2 at e17
  have g17 : (h2 ++ [LO.lst (D.str ab :: rest.map D.str)])[h2.length]? = some (.lst (D.str ab :: rest.map .str)) := get_last _ _
  generalize hh3 : h2 ++ [LO.lst (D.str ab :: rest.map D.str)] = h3' at e17 g17
  have s17 : law_s17 (δ r' s' none none none none) h = some (.nx (δ r' s' (some (.str ab)) none none none) h3') := by
    unfold law_s17
    rw [sAsg_ap, eBin_ap, e17]
    simp only [bnd_ok, eC_ap, gIx_lst g17, atI_0, List.getElem?_cons_zero, Option.map_some, opt_some, bndS_ok, gN_ap]
    rw [← hδ]
    rfl
  have s18 : law_s18 (δ r' s' (some (.str ab)) none none none) h3' = some (.nx (δ r' s' (some (.str ab)) none none none) h3') := by
    rw [← hδ]; simp [law_s18, a1', nz]
  -- wrong weights
  generalize hB : D.tup [.str "a", .tup [.int 1, .int 2]] = pa
  let W1 : List D := [.tup [.tup [.str "a", .tup [.int 0, .int 1]]], .tup [.tup [.str "a", .tup [.int 2, .int 4]]], .tup [.tup [.str "a", .int 1]], .ref h3'.length, .tup [.tup [.str "b", .tup [.int 1, .int 2]], pa]]
  let W2 : List D := [.tup [pa, .tup [.str "a", .tup [.int 1, .int 3]]], .tup [.tup [.str "A", .tup [.int 1, .int 2]]], .tup [.tup [.str "a"]], .non, .tup [.tup [.str "a", .tup [.int 1, .int 0]]], .str "a"]
  have s19 : law_s19 (δ r' s' (some (.str ab)) none none none) h3' = some (.nx (δ r' s' (some (.str ab)) (some (.ref (h3'.length + 1))) none none) (h3' ++ [.lst [pa], .lst W1])) := by
    rw [← hδ, ← hB]; simp [law_s19, W1, ← hB]
  have k1 : (h3' ++ [LO.lst [pa], .lst W1, .lst W2])[h3'.length + 1]? = some (.lst W1) := by simp
  have k2 : (h3' ++ [LO.lst [pa], .lst W1, .lst W2])[h3'.length + 2]? = some (.lst W2) := by simp
  have ga : gAdd (.ref (h3'.length + 1)) (.ref (h3'.length + 2)) (h3' ++ [LO.lst [pa], .lst W1, .lst W2]) = some (.ref (h3'.length + 3), h3' ++ [LO.lst [pa], .lst W1, .lst W2, .lst (W1 ++ W2)]) := by
    unfold gAdd
    simp only [k1, k2]
    rw [if_pos (by show (11 : Nat) ≤ _; decide)]
    simp
  have s20 : law_s20 (δ r' s' (some (.str ab)) (some (.ref (h3'.length + 1))) none none) (h3' ++ [.lst [pa], .lst W1]) = some (.nx (δ r' s' (some (.str ab)) (some (.ref (h3'.length + 3))) none none) (h3' ++ [.lst [pa], .lst W1, .lst W2, .lst (W1 ++ W2)])) := by
    have ga' := ga
    simp only [W2, ← hB] at ga'
    simp only [W2, ← hB]
    rw [← hδ]
    simp [law_s20]
    rw [ga']
    simp
  generalize hh5 : h3' ++ [LO.lst [pa], .lst W1, .lst W2, .lst (W1 ++ W2)] = h5 at s20
  have k3 : h5[h3'.length + 3]? = some (.lst (W1 ++ W2)) := by rw [← hh5]; simp
  have k0 : h5[h3'.length]? = some (.lst [pa]) := by rw [← hh5]; simp
  have bad : ∀ d ∈ W1 ++ W2, F_are_weights [d] h5 = some (.ok (.bl false) h5) := by
    intro d hd
    simp only [W1, W2, List.cons_append, List.nil_append, List.mem_cons, List.not_mem_nil, or_false] at hd
    rcases hd with rfl | rfl | rfl | rfl | rfl | rfl | rfl | rfl | rfl | rfl | rfl
    · exact wrong1 h5
    · exact wrong2 h5
    · exact wrong3 h5
    · exact weights_named (named_not (tyN_lst k0) (by decide))
    · rw [← hB]; exact weights_named (wrong5 _ _ h5)
    · rw [← hB]; exact weights_named (wrong6 _ _ h5)
    · exact weights_named (wrong7 _ h5)
    · exact weights_named (wrong8 h5)
    · exact weights_named (named_not (t := "NoneType") rfl (by decide))
    · exact wrong10 h5
    · exact weights_named (named_not (t := "str") rfl (by decide))
  have ok5 : (⟨W1 ++ W2, [(h3'.length + 3, .lst (W1 ++ W2))]⟩ : ItD).ok h5 := fun j o z => by
    simp only [List.mem_singleton] at z
    cases z
    exact k3
  have loop21 : ∀ (ds : List D) (t : Option D), (∀ d ∈ ds, d ∈ W1 ++ W2) → ∃ t', forL ⟨W1 ++ W2, [(h3'.length + 3, .lst (W1 ++ W2))]⟩ (gN 14) law_b2 ds (δ r' s' (some (.str ab)) (some (.ref (h3'.length + 3))) t none) h5 = some (.nx (δ r' s' (some (.str ab)) (some (.ref (h3'.length + 3))) t' none) h5) := by
    intro ds
    induction ds with
    | nil => intro t _; exact ⟨t, rfl⟩
    | cons d ds ih =>
      intro t hd
      obtain ⟨t', e⟩ := ih (some d) (fun d' hd' => hd d' (List.mem_cons_of_mem _ hd'))
      refine ⟨t', ?_⟩
      rw [forL_nx (δ1 := δ r' s' (some (.str ab)) (some (.ref (h3'.length + 3))) (some d) none) (h1 := h5) (δ2 := δ r' s' (some (.str ab)) (some (.ref (h3'.length + 3))) (some d) none) (h2 := h5) (by rw [← hδ]; simp) (by rw [← hδ]; exact refused_at (bad d (hd d List.mem_cons_self))) ok5]
      exact e
  obtain ⟨t21, l21⟩ := loop21 (W1 ++ W2) none (fun d hd => hd)
  have s21 : law_s21 (δ r' s' (some (.str ab)) (some (.ref (h3'.length + 3))) none none) h5 = some (.nx (δ r' s' (some (.str ab)) (some (.ref (h3'.length + 3))) t21 none) h5) := by
    unfold law_s21
    have : eV 13 (δ r' s' (some (.str ab)) (some (.ref (h3'.length + 3))) none none) h5 = some (.ok (.ref (h3'.length + 3)) h5) := by rw [← hδ]; simp
    rw [sFor_ap, iSeq_ap, this]
    simp only [bnd_ok, seqOf_lst k3, ri_some, bndS_ok]
    exact l21
  -- wrong sizes
  let Z : List D := [.tup [.tup [.str "a", .int 0]], .tup [.tup [.str "b", .int 1], .tup [.str "a", .int 1]], .ref h5.length, .non, .tup [.tup [.str "a", .bl true]]]
  generalize hh6 : h5 ++ [LO.lst [.tup [.str "a", .int 1]], .lst Z] = h6'
  have k6 : h6'[h5.length]? = some (.lst [.tup [.str "a", .int 1]]) := by rw [← hh6]; simp
  have k7 : h6'[h5.length + 1]? = some (.lst Z) := by rw [← hh6]; simp
  have badz : ∀ d ∈ Z, F_is_dimension [d] h6' = some (.ok (.bl false) h6') := by
    intro d hd
    simp only [Z, List.mem_cons, List.not_mem_nil, or_false] at hd
    rcases hd with rfl | rfl | rfl | rfl | rfl
    · exact wrongd1 h6'
    · exact dim_named (wrong5 _ _ h6')
    · exact dim_named (named_not (tyN_lst k6) (by decide))
    · exact dim_named (named_not (t := "NoneType") rfl (by decide))
    · exact wrongd5 h6'
  have ok6 : (⟨Z, [(h5.length + 1, .lst Z)]⟩ : ItD).ok h6' := fun j o z => by
    simp only [List.mem_singleton] at z
    cases z
    exact k7
  have loop22 : ∀ (ds : List D) (t : Option D), (∀ d ∈ ds, d ∈ Z) → ∃ t', forL ⟨Z, [(h5.length + 1, .lst Z)]⟩ (gN 14) law_b3 ds (δ r' s' (some (.str ab)) (some (.ref (h3'.length + 3))) t none) h6' = some (.nx (δ r' s' (some (.str ab)) (some (.ref (h3'.length + 3))) t' none) h6') := by
    intro ds
    induction ds with
    | nil => intro t _; exact ⟨t, rfl⟩
    | cons d ds ih =>
      intro t hd
      obtain ⟨t', e⟩ := ih (some d) (fun d' hd' => hd d' (List.mem_cons_of_mem _ hd'))
      refine ⟨t', ?_⟩
      rw [forL_nx (δ1 := δ r' s' (some (.str ab)) (some (.ref (h3'.length + 3))) (some d) none) (h1 := h6') (δ2 := δ r' s' (some (.str ab)) (some (.ref (h3'.length + 3))) (some d) none) (h2 := h6') (by rw [← hδ]; simp) (by rw [← hδ]; simp [law_b3, refused_size W (badz d (hd d List.mem_cons_self))]) ok6]
      exact e
  obtain ⟨t22, l22⟩ := loop22 Z t21 (fun d hd => hd)
  have s22 : law_s22 (δ r' s' (some (.str ab)) (some (.ref (h3'.length + 3))) t21 none) h5 = some (.nx (δ r' s' (some (.str ab)) (some (.ref (h3'.length + 3))) t22 none) h6') := by
    unfold law_s22
    rw [sFor_ap]
    have it : iSeq (eLst (aCons (eTup (aCons (eTup (aCons (eC (.str "a")) (aCons (eC (.int 0)) (aNil)))) (aNil))) (aCons (eTup (aCons (eTup (aCons (eC (.str "b")) (aCons (eC (.int 1)) (aNil)))) (aCons (eTup (aCons (eC (.str "a")) (aCons (eC (.int 1)) (aNil)))) (aNil)))) (aCons (eLst (aCons (eTup (aCons (eC (.str "a")) (aCons (eC (.int 1)) (aNil)))) (aNil))) (aCons (eC .non) (aCons (eTup (aCons (eTup (aCons (eC (.str "a")) (aCons (eC (.bl true)) (aNil)))) (aNil))) (aNil)))))))
      (δ r' s' (some (.str ab)) (some (.ref (h3'.length + 3))) t21 none) h5 = some (.ok ⟨Z, [(h5.length + 1, .lst Z)]⟩ h6') := by
      have e : eLst (aCons (eTup (aCons (eTup (aCons (eC (.str "a")) (aCons (eC (.int 0)) (aNil)))) (aNil))) (aCons (eTup (aCons (eTup (aCons (eC (.str "b")) (aCons (eC (.int 1)) (aNil)))) (aCons (eTup (aCons (eC (.str "a")) (aCons (eC (.int 1)) (aNil)))) (aNil)))) (aCons (eLst (aCons (eTup (aCons (eC (.str "a")) (aCons (eC (.int 1)) (aNil)))) (aNil))) (aCons (eC .non) (aCons (eTup (aCons (eTup (aCons (eC (.str "a")) (aCons (eC (.bl true)) (aNil)))) (aNil))) (aNil))))))
        (δ r' s' (some (.str ab)) (some (.ref (h3'.length + 3))) t21 none) h5 = some (.ok (.ref (h5.length + 1)) h6') := by
        rw [← hh6]; simp [Z]
      rw [iSeq_ap, e]
      simp only [bnd_ok, seqOf_lst k7, ri_some]
    rw [it]
    exact l22
  have s23 : law_s23 (δ r' s' (some (.str ab)) (some (.ref (h3'.length + 3))) t22 none) h6' = some (.rt (.bl true) h6') := by
    simp [law_s23]
  obtain ⟨hf, ef, _⟩ := gc_some h0 h6' (.bl true)
  refine ⟨hf, (fnD_eq _ _ _ _ (r := some (.rt (.bl true) h6')) ?_).trans ef⟩
  show D_law [some (.ref 0), none, none, none, none, none, none, none, none, none, none, none, none, none, none, none] h0 = _
  unfold D_law
  rw [seq_nx s1, seq_nx s2, seq_nx s3, seq_nx s4, seq_nx s5, seq_nx s6, seq_nx s7, seq_nx s8, seq_nx s9, seq_nx s10', seq_nx s11, seq_nx s12, seq_nx s13, seq_nx s14, seq_nx s15, seq_nx s16, seq_nx s17, seq_nx s18, seq_nx s19, seq_nx s20, seq_nx s21, seq_nx s22]
  exact s23
end KK

open PySem PySem.W PyProof.Rows
set_option maxHeartbeats 0 in
theorem PySem.Challenge.cw_anyunits_k71_whole_weights_holds : PySem.Challenge.rw_anyunits_k71_whole_weights.Holds := by
  w_on; o_law; k_head; (case hw => w_witness2)
  k_fill
  refine DL.law_walk (l := PySem.Challenge.rw_anyunits_k71_whole_weights) (n := 63) (k := 7) (x := "script") KK.F_law rfl (by decide) rfl ⟨rfl, by decide, by decide⟩ (fun w h Y => PySem.W.kIn_of Y) ?F ?L
  case F =>
    intro w mg fa h KX G hmg
    refine' KK.all_mk KX G hmg ?a0 ?l0 ?c0 ?k0 ?a1 ?l1 ?c1 ?k1 ?a2 ?l2 ?c2 ?k2 ?a3 ?l3 ?c3 ?k3 ?a4 ?l4 ?c4 ?k4 ?a5 ?l5 ?c5 ?k5 ?a6 ?l6 ?c6 ?k6 ?a7 ?l7 ?c7 ?k7 ?a8 ?l8 ?c8 ?k8 ?a9 ?l9 ?c9 ?k9 ?a10 ?l10 ?c10 ?k10 ?a11 ?l11 ?c11 ?k11 ?a12 ?l12 ?c12 ?k12 ?a13 ?l13 ?c13 ?k13 ?a14 ?l14 ?c14 ?k14 ?a15 ?l15 ?c15 ?k15 ?a16 ?l16 ?c16 ?k16 ?a17 ?l17 ?c17 ?k17 ?a18 ?l18 ?c18 ?k18 ?a19 ?l19 ?c19 ?k19 ?a20 ?l20 ?c20 ?k20 ?a21 ?l21 ?c21 ?k21 ?a22 ?l22 ?c22 ?k22 ?a23 ?l23 ?c23 ?k23 ?a24 ?l24 ?c24 ?k24 ?a25 ?l25 ?c25 ?k25 ?a26 ?l26 ?c26 ?k26 ?a27 ?l27 ?c27 ?k27 ?a28 ?l28 ?c28 ?k28 ?a29 ?l29 ?c29 ?k29 ?a30 ?l30 ?c30 ?k30 ?a31 ?l31 ?c31 ?k31 ?a32 ?l32 ?c32 ?k32 ?a33 ?l33 ?c33 ?k33 ?z_abs ?z_all ?z_bool ?z_dict ?z_int ?z_isinstance ?z_len ?z_list ?z_range ?z_sorted ?z_str ?z_tuple ?z_zip ?gm_LETTERS ?gm_MOST_NAME ?gm_MOST_POWER ?gm_NOUGHT ?g_NOUGHT0 ?xa_NoDimension ?xb_NoDimension ?xc_NoDimension ?xd_NoDimension ?xe_NoDimension ?xa_NoFraction ?xb_NoFraction ?xc_NoFraction ?xd_NoFraction ?xe_NoFraction ?xa_NoNumber ?xb_NoNumber ?xc_NoNumber ?xd_NoNumber ?xe_NoNumber ?xa_NoWeights ?xb_NoWeights ?xc_NoWeights ?xd_NoWeights ?xe_NoWeights ?xf_NoDimension ?xf_NoWeights ?em_NoDimension_NoDimension ?em_NoDimension_NoWeights ?em_NoWeights_NoDimension ?em_NoWeights_NoWeights
    (case a0 => k_is); (case l0 => k_is); (case c0 => k_is); (case k0 => k_is); (case a1 => k_is); (case l1 => k_is); (case c1 => k_is); (case k1 => k_is); (case a2 => k_is); (case l2 => k_is); (case c2 => k_is); (case k2 => k_is); (case a3 => k_is); (case l3 => k_is); (case c3 => k_is); (case k3 => k_is); (case a4 => k_is); (case l4 => k_is); (case c4 => k_is); (case k4 => k_is); (case a5 => k_is); (case l5 => k_is); (case c5 => k_is); (case k5 => k_is); (case a6 => k_is); (case l6 => k_is); (case c6 => k_is); (case k6 => k_is); (case a7 => k_is); (case l7 => k_is); (case c7 => k_is); (case k7 => k_is); (case a8 => k_is); (case l8 => k_is); (case c8 => k_is); (case k8 => k_is); (case a9 => k_is); (case l9 => k_is); (case c9 => k_is); (case k9 => k_is); (case a10 => k_is); (case l10 => k_is); (case c10 => k_is); (case k10 => k_is); (case a11 => k_is); (case l11 => k_is); (case c11 => k_is); (case k11 => k_is); (case a12 => k_is); (case l12 => k_is); (case c12 => k_is); (case k12 => k_is); (case a13 => k_is); (case l13 => k_is); (case c13 => k_is); (case k13 => k_is); (case a14 => k_is); (case l14 => k_is); (case c14 => k_is); (case k14 => k_is); (case a15 => k_is); (case l15 => k_is); (case c15 => k_is); (case k15 => k_is); (case a16 => k_is); (case l16 => k_is); (case c16 => k_is); (case k16 => k_is); (case a17 => k_is); (case l17 => k_is); (case c17 => k_is); (case k17 => k_is); (case a18 => k_is); (case l18 => k_is); (case c18 => k_is); (case k18 => k_is); (case a19 => k_is); (case l19 => k_is); (case c19 => k_is); (case k19 => k_is); (case a20 => k_is); (case l20 => k_is); (case c20 => k_is); (case k20 => k_is); (case a21 => k_is); (case l21 => k_is); (case c21 => k_is); (case k21 => k_is); (case a22 => k_is); (case l22 => k_is); (case c22 => k_is); (case k22 => k_is); (case a23 => k_is); (case l23 => k_is); (case c23 => k_is); (case k23 => k_is); (case a24 => k_is); (case l24 => k_is); (case c24 => k_is); (case k24 => k_is); (case a25 => k_is); (case l25 => k_is); (case c25 => k_is); (case k25 => k_is); (case a26 => k_is); (case l26 => k_is); (case c26 => k_is); (case k26 => k_is); (case a27 => k_is); (case l27 => k_is); (case c27 => k_is); (case k27 => k_is); (case a28 => k_is); (case l28 => k_is); (case c28 => k_is); (case k28 => k_is); (case a29 => k_is); (case l29 => k_is); (case c29 => k_is); (case k29 => k_is); (case a30 => k_is); (case l30 => k_is); (case c30 => k_is); (case k30 => k_is); (case a31 => k_is); (case l31 => k_is); (case c31 => k_is); (case k31 => k_is); (case a32 => k_is); (case l32 => k_is); (case c32 => k_is); (case k32 => k_is); (case a33 => k_is); (case l33 => k_is); (case c33 => k_is); (case k33 => k_is); (case z_abs => k_is); (case z_all => k_is); (case z_bool => k_is); (case z_dict => k_is); (case z_int => k_is); (case z_isinstance => k_is); (case z_len => k_is); (case z_list => k_is); (case z_range => k_is); (case z_sorted => k_is); (case z_str => k_is); (case z_tuple => k_is); (case z_zip => k_is); (case gm_LETTERS => k_is); (case gm_MOST_NAME => k_is); (case gm_MOST_POWER => k_is); (case gm_NOUGHT => k_is); (case g_NOUGHT0 => k_is); (case xa_NoDimension => k_is); (case xb_NoDimension => k_exc); (case xc_NoDimension => k_is); (case xd_NoDimension => k_is); (case xe_NoDimension => k_is); (case xa_NoFraction => k_is); (case xb_NoFraction => k_exc); (case xc_NoFraction => k_is); (case xd_NoFraction => k_is); (case xe_NoFraction => k_is); (case xa_NoNumber => k_is); (case xb_NoNumber => k_exc); (case xc_NoNumber => k_is); (case xd_NoNumber => k_is); (case xe_NoNumber => k_is); (case xa_NoWeights => k_is); (case xb_NoWeights => k_exc); (case xc_NoWeights => k_is); (case xd_NoWeights => k_is); (case xe_NoWeights => k_is); (case xf_NoDimension => k_is); (case xf_NoWeights => k_is); (case em_NoDimension_NoDimension => k_is); (case em_NoDimension_NoWeights => k_is); (case em_NoWeights_NoDimension => k_is); (case em_NoWeights_NoWeights => k_is)
  case L => exact KK.law_true
