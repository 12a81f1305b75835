import PyProof.Rows.All
import Wide.All
import OpenK.AllK
import Wide.FinOn
import HandS.ForMost
import HandS.ForExc
import HandS.IsInst
import HandS.TupAny
import HandS.TupLe
import HandS.Small
import HandS.Text
import HandS.Conv
import HandS.SortInts
import HandS.More
import HandS.ExcIs
import PySem.Challenge.RW_waitloom_k04_words
set_option Elab.async false
set_option linter.all false
set_option maxRecDepth 100000
set_option autoImplicit false
/-! ML: a layer of plain functions over HandS. A def of the text is mirrored by a function over plain data D and a store of cells; the canonical reading (tE, tB, ..) says that the code does what the function does. -/
namespace ML
open PySem PySem.Spec L2

/-! ### plain data -/
inductive D where
  | non | bl (b : Bool) | int (i : Int) | str (x : Str) | tup (xs : List D) | lis (xs : List D) | ref (n : Nat) | exn (a : Addr)
inductive Cell where
  | lst (xs : List D)
  | dct (kvs : List (Key × D))
  | dlk (kvs : List (Key × D))
  | ins (c : Nat) (fs : List (Str × D))
abbrev Store := List Cell
abbrev Loc := List (Option D)
structure Exn where
  c : Nat
  fs : List (Str × D)
inductive R (α : Type) where
  | ok (a : α) (S : Store)
  | ex (x : Exn) (S : Store)
  | bad
def R.bind {α β : Type} (r : R α) (f : α → Store → R β) : R β := match r with
  | .ok a S => f a S
  | .ex x S => .ex x S
  | .bad => .bad
@[simp] theorem R.bind_ok {α β : Type} (a : α) (S : Store) (f : α → Store → R β) : (R.ok a S).bind f = f a S := (rfl)
@[simp] theorem R.bind_ex {α β : Type} (x : Exn) (S : Store) (f : α → Store → R β) : (R.ex x S).bind f = .ex x S := (rfl)
@[simp] theorem R.bind_bad {α β : Type} (f : α → Store → R β) : (R.bad : R α).bind f = .bad := (rfl)
theorem R.bind_assoc {α β γ : Type} (r : R α) (f : α → Store → R β) (g : β → Store → R γ) : (r.bind f).bind g = r.bind fun a S => (f a S).bind g := by
  cases r <;> rfl

/-! ### how plain data lies in the abstract heap -/
/-- a list that is never written: the script -/
def FrL (K : PySem.W.Frag) (H : Hp) (a : Addr) (vs : List V) : Prop :=
  (∃ o, H a = some (.frz o (.lst vs))) ∨
    ∃ (o : Obj) (its : Array Value) (n : Nat), K.lookup a = some o ∧ o.cls = .type "list" ∧ o.dict = none ∧ o.data = .seq its n ∧ its.size ≤ sizeLine ∧ Vals vs its.toList
theorem FrL.sq {K : PySem.W.Frag} {H : Hp} {a : Addr} {vs : List V} (h : FrL K H a vs) : SqL K H a vs := by
  rcases h with ⟨o, h⟩ | h
  · exact .inl (.inr ⟨o, h⟩)
  · exact .inr h
mutual
def RepV (K : PySem.W.Frag) (ρ : List Addr) (H : Hp) : D → V → Prop
  | .non, v => v = .non
  | .bl b, v => v = .bl b
  | .int i, v => v = .int i
  | .str x, v => v = .str x
  | .tup xs, v => ∃ a vs, v = .ref a ∧ SqT K H a vs ∧ RepVs K ρ H xs vs
  | .lis xs, v => ∃ a vs, v = .ref a ∧ FrL K H a vs ∧ RepVs K ρ H xs vs
  | .ref n, v => ∃ a, ρ[n]? = some a ∧ v = .ref a
  | .exn a, v => v = .ref a
def RepVs (K : PySem.W.Frag) (ρ : List Addr) (H : Hp) : List D → List V → Prop
  | [], vs => vs = []
  | x :: xs, vs => ∃ v r, vs = v :: r ∧ RepV K ρ H x v ∧ RepVs K ρ H xs r
end
def RepP (K : PySem.W.Frag) (ρ : List Addr) (H : Hp) {κ : Type} : List (κ × D) → List (κ × V) → Prop
  | [], ps => ps = []
  | (k, x) :: r, ps => ∃ v q, ps = (k, v) :: q ∧ RepV K ρ H x v ∧ RepP K ρ H r q
def RepC (K : PySem.W.Frag) (cA : Nat → Addr) (ρ : List Addr) (H : Hp) (c : Cell) (a : Addr) : Prop := match c with
  | .lst xs => ∃ vs, H a = some (.lst vs) ∧ RepVs K ρ H xs vs
  | .dct kvs => ∃ ps, H a = some (.dK ps) ∧ RepP K ρ H kvs ps
  | .dlk kvs => ∃ o ps, H a = some (.frz o (.dK ps)) ∧ RepP K ρ H kvs ps
  | .ins c fs => ∃ dx ps, H a = some (.ins (cA c) dx ps) ∧ RepP K ρ H fs ps
structure Reps (K : PySem.W.Frag) (cA : Nat → Addr) (ρ : List Addr) (H : Hp) (S : Store) : Prop where
  len : ρ.length = S.length
  nd : ρ.Nodup
  at_ : ∀ (n : Nat) (c : Cell) (a : Addr), S[n]? = some c → ρ[n]? = some a → RepC K cA ρ H c a
def RepX (K : PySem.W.Frag) (cA : Nat → Addr) (ρ : List Addr) (H : Hp) (x : Exn) (c : Value) (d : Option Addr) : Prop :=
  c = .ref (cA x.c) ∧ ((x.fs = [] ∧ d = none) ∨ x.fs ≠ [] ∧ ∃ a ps, d = some a ∧ H a = some (.xd ps) ∧ RepP K ρ H x.fs ps)
structure RepL (K : PySem.W.Frag) (ρ : List Addr) (H : Hp) (l : Loc) (σ : St) : Prop where
  len : l.length = σ.length
  at_ : ∀ (i : Nat) (d : D), l[i]? = some (some d) → ∃ v, σ[i]? = some (some v) ∧ RepV K ρ H d v
/-- what may have happened -/
structure Ext (ρ : List Addr) (H : Hp) (ρ' : List Addr) (H' : Hp) : Prop where
  pre : ∃ r, ρ' = ρ ++ r ∧ ∀ a ∈ r, H a = none
  keep : ∀ a o, H a = some o → a ∉ ρ → H' a = some o
  tups : ∀ a xs, Rd H a (.tup xs) → Rd H' a (.tup xs)
  frzs : ∀ a o xs, H a = some (.frz o (.lst xs)) → H' a = some (.frz o (.lst xs))
  there : ∀ a, H a ≠ none → H' a ≠ none
theorem Ext.refl (ρ : List Addr) (H : Hp) : Ext ρ H ρ H := ⟨⟨[], by simp, fun _ h => nomatch h⟩, fun _ _ h _ => h, fun _ _ h => h, fun _ _ _ h => h, fun _ h => h⟩
theorem Ext.trans {ρ ρ1 ρ2 : List Addr} {H H1 H2 : Hp} (a : Ext ρ H ρ1 H1) (b : Ext ρ1 H1 ρ2 H2) : Ext ρ H ρ2 H2 := by
  obtain ⟨r1, e1, n1⟩ := a.pre
  obtain ⟨r2, e2, n2⟩ := b.pre
  refine ⟨⟨r1 ++ r2, by rw [e2, e1, List.append_assoc], fun x hx => ?_⟩, fun x o h nx => ?_, fun x xs h => b.tups x xs (a.tups x xs h), fun x o xs h => b.frzs x o xs (a.frzs x o xs h), fun x h => b.there x (a.there x h)⟩
  · rcases List.mem_append.mp hx with h | h
    · exact n1 x h
    · have q := n2 x h
      cases e : H x with
      | none => rfl
      | some o => exact absurd q (a.there x (by rw [e]; simp))
  · refine b.keep x o (a.keep x o h nx) fun hx => ?_
    rw [e1] at hx
    rcases List.mem_append.mp hx with q | q
    · exact nx q
    · have := n1 x q
      rw [h] at this
      cases this
theorem SqT.ext {K : PySem.W.Frag} {ρ ρ' : List Addr} {H H' : Hp} {a : Addr} {vs : List V} (e : Ext ρ H ρ' H') (h : SqT K H a vs) : SqT K H' a vs := by
  rcases h with h | h
  · exact .inl (e.tups a vs h)
  · exact .inr h
theorem FrL.ext {K : PySem.W.Frag} {ρ ρ' : List Addr} {H H' : Hp} {a : Addr} {vs : List V} (e : Ext ρ H ρ' H') (h : FrL K H a vs) : FrL K H' a vs := by
  rcases h with ⟨o, h⟩ | h
  · exact .inl ⟨o, e.frzs a o vs h⟩
  · exact .inr h
mutual
theorem RepV.ext {K : PySem.W.Frag} {ρ ρ' : List Addr} {H H' : Hp} (e : Ext ρ H ρ' H') : ∀ {d : D} {v : V}, RepV K ρ H d v → RepV K ρ' H' d v
  | .non, _, h => h
  | .bl _, _, h => h
  | .int _, _, h => h
  | .str _, _, h => h
  | .tup xs, v, h => by
    unfold RepV at h ⊢
    obtain ⟨a, vs, ev, hs, hr⟩ := h
    exact ⟨a, vs, ev, SqT.ext e hs, RepVs.ext e hr⟩
  | .lis xs, v, h => by
    unfold RepV at h ⊢
    obtain ⟨a, vs, ev, hs, hr⟩ := h
    exact ⟨a, vs, ev, hs.ext e, RepVs.ext e hr⟩
  | .ref n, v, h => by
    unfold RepV at h ⊢
    obtain ⟨a, ha, ev⟩ := h
    obtain ⟨r, er, _⟩ := e.pre
    refine ⟨a, ?_, ev⟩
    rw [er]
    have hn : n < ρ.length := (List.getElem?_eq_some_iff.mp ha).1
    rw [List.getElem?_append_left hn]
    exact ha
  | .exn _, _, h => h
theorem RepVs.ext {K : PySem.W.Frag} {ρ ρ' : List Addr} {H H' : Hp} (e : Ext ρ H ρ' H') : ∀ {ds : List D} {vs : List V}, RepVs K ρ H ds vs → RepVs K ρ' H' ds vs
  | [], _, h => h
  | x :: xs, vs, h => by
    unfold RepVs at h ⊢
    obtain ⟨v, r, ev, h1, h2⟩ := h
    exact ⟨v, r, ev, RepV.ext e h1, RepVs.ext e h2⟩
end
theorem RepP.ext {K : PySem.W.Frag} {ρ ρ' : List Addr} {H H' : Hp} (e : Ext ρ H ρ' H') {κ : Type} : ∀ {kvs : List (κ × D)} {ps : List (κ × V)}, RepP K ρ H kvs ps → RepP K ρ' H' kvs ps
  | [], _, h => h
  | (k, x) :: r, ps, h => by
    unfold RepP at h ⊢
    obtain ⟨v, q, ev, h1, h2⟩ := h
    exact ⟨v, q, ev, h1.ext e, RepP.ext e h2⟩
theorem RepL.ext {K : PySem.W.Frag} {ρ ρ' : List Addr} {H H' : Hp} {l : Loc} {σ : St} (e : Ext ρ H ρ' H') (h : RepL K ρ H l σ) : RepL K ρ' H' l σ :=
  ⟨h.len, fun i d hd => let ⟨v, hv, r⟩ := h.at_ i d hd; ⟨v, hv, r.ext e⟩⟩
/-- a cell that is untouched -/
theorem RepC.ext {K : PySem.W.Frag} {cA : Nat → Addr} {ρ ρ' : List Addr} {H H' : Hp} {c : Cell} {a : Addr} (e : Ext ρ H ρ' H') (same : H' a = H a) (h : RepC K cA ρ H c a) : RepC K cA ρ' H' c a := by
  cases c with
  | lst xs => obtain ⟨vs, h1, h2⟩ := h; exact ⟨vs, same.trans h1, h2.ext e⟩
  | dct kvs => obtain ⟨ps, h1, h2⟩ := h; exact ⟨ps, same.trans h1, h2.ext e⟩
  | dlk kvs => obtain ⟨o, ps, h1, h2⟩ := h; exact ⟨o, ps, same.trans h1, h2.ext e⟩
  | ins c fs => obtain ⟨dx, ps, h1, h2⟩ := h; exact ⟨dx, ps, same.trans h1, h2.ext e⟩
theorem RepC.there {K : PySem.W.Frag} {cA : Nat → Addr} {ρ : List Addr} {H : Hp} {c : Cell} {a : Addr} (h : RepC K cA ρ H c a) : ∃ o, H a = some o ∧ ∀ xs, o ≠ .tup xs ∧ ∀ u, o ≠ .frz u (.tup xs) ∧ o ≠ .frz u (.lst xs) := by
  cases c with
  | lst xs => obtain ⟨vs, h1, h2⟩ := h; exact ⟨_, h1, fun _ => ⟨(nomatch ·), fun _ => ⟨(nomatch ·), (nomatch ·)⟩⟩⟩
  | dct kvs => obtain ⟨ps, h1, h2⟩ := h; exact ⟨_, h1, fun _ => ⟨(nomatch ·), fun _ => ⟨(nomatch ·), (nomatch ·)⟩⟩⟩
  | dlk kvs => obtain ⟨o, ps, h1, h2⟩ := h; exact ⟨_, h1, fun _ => ⟨(nomatch ·), fun _ => ⟨(nomatch ·), (nomatch ·)⟩⟩⟩
  | ins c fs => obtain ⟨dx, ps, h1, h2⟩ := h; exact ⟨_, h1, fun _ => ⟨(nomatch ·), fun _ => ⟨(nomatch ·), (nomatch ·)⟩⟩⟩
section
variable {K : PySem.W.Frag} {cA : Nat → Addr} {ρ : List Addr} {H : Hp} {S : Store}
theorem Reps.get (h : Reps K cA ρ H S) {n : Nat} {c : Cell} (e : S[n]? = some c) : ∃ a, ρ[n]? = some a ∧ RepC K cA ρ H c a := by
  have hn : n < S.length := (List.getElem?_eq_some_iff.mp e).1
  have hr : n < ρ.length := by rw [h.len]; exact hn
  exact ⟨ρ[n], List.getElem?_eq_getElem hr, h.at_ n c _ e (List.getElem?_eq_getElem hr)⟩
theorem Reps.mem (h : Reps K cA ρ H S) {a : Addr} (ha : a ∈ ρ) : ∃ o, H a = some o ∧ ∀ xs, o ≠ .tup xs ∧ ∀ u, o ≠ .frz u (.tup xs) ∧ o ≠ .frz u (.lst xs) := by
  obtain ⟨n, hn⟩ := List.getElem?_of_mem ha
  have hl : n < S.length := by rw [← h.len]; exact (List.getElem?_eq_some_iff.mp hn).1
  exact (h.at_ n _ a (List.getElem?_eq_getElem hl) hn).there
/-- a new tracked thing outside of the store -/
theorem Ext.new {p : Addr} {o : HO} (hp : H p = none) : Ext ρ H ρ (upd H p o) := by
  have ne : ∀ {a u}, H a = some u → a ≠ p := fun h => ne_of_none h hp
  refine ⟨⟨[], by simp, fun _ h => nomatch h⟩, fun a u h _ => by rw [upd_ne (ne h)]; exact h, fun a xs h => ?_, fun a u xs h => by rw [upd_ne (ne h)]; exact h, fun a h => ?_⟩
  · rcases h with h | ⟨u, h⟩
    · exact .inl (by rw [upd_ne (ne h)]; exact h)
    · exact .inr ⟨u, by rw [upd_ne (ne h)]; exact h⟩
  · by_cases e : a = p
    · subst e; exact absurd hp h
    · rw [upd_ne e]; exact h
theorem Reps.new (h : Reps K cA ρ H S) {p : Addr} {o : HO} (hp : H p = none) : Reps K cA ρ (upd H p o) S :=
  ⟨h.len, h.nd, fun n c a hc ha => (h.at_ n c a hc ha).ext (Ext.new hp) (by
    obtain ⟨u, hu, _⟩ := (h.at_ n c a hc ha).there
    rw [upd_ne (ne_of_none hu hp)])⟩
/-- a tracked thing outside of the store is changed (a list that is being built) -/
theorem Reps.other (h : Reps K cA ρ H S) {H' : Hp} (e : Ext ρ H ρ H') (same : ∀ a ∈ ρ, H' a = H a) : Reps K cA ρ H' S :=
  ⟨h.len, h.nd, fun n c a hc ha => (h.at_ n c a hc ha).ext e (same a (List.mem_of_getElem? ha))⟩
/-- a thing is taken into the store -/
theorem Ext.alloc {p : Addr} {o : HO} (hp : H p = none) : Ext ρ H (ρ ++ [p]) (upd H p o) := by
  have x := Ext.new (ρ := ρ) (o := o) hp
  exact ⟨⟨[p], rfl, fun a h => by have e : a = p := by simpa using h
                                  rw [e]; exact hp⟩, x.keep, x.tups, x.frzs, x.there⟩
theorem Ext.take {H' : Hp} {ρ' : List Addr} {p : Addr} (e : Ext ρ H ρ' H') (hp : H p = none) : Ext ρ H (ρ' ++ [p]) H' := by
  obtain ⟨r, er, nr⟩ := e.pre
  refine ⟨⟨r ++ [p], by rw [er, List.append_assoc], fun a h => ?_⟩, e.keep, e.tups, e.frzs, e.there⟩
  rcases List.mem_append.mp h with h | h
  · exact nr a h
  · have q : a = p := by simpa using h
    rw [q]; exact hp
theorem Ext.grow {p : Addr} : (∀ a, H a ≠ none → H a ≠ none) → H p = none → Ext ρ H (ρ ++ [p]) H := fun _ hp => (Ext.refl ρ H).take hp
end
mutual
/-- data over a store that has grown -/
theorem RepV.grow {K : PySem.W.Frag} {ρ r : List Addr} {H : Hp} : ∀ {d : D} {v : V}, RepV K ρ H d v → RepV K (ρ ++ r) H d v
  | .non, _, h => h
  | .bl _, _, h => h
  | .int _, _, h => h
  | .str _, _, h => h
  | .tup xs, v, h => by
    unfold RepV at h ⊢
    obtain ⟨a, vs, ev, hs, hr⟩ := h
    exact ⟨a, vs, ev, hs, RepVs.grow hr⟩
  | .lis xs, v, h => by
    unfold RepV at h ⊢
    obtain ⟨a, vs, ev, hs, hr⟩ := h
    exact ⟨a, vs, ev, hs, RepVs.grow hr⟩
  | .ref n, v, h => by
    unfold RepV at h ⊢
    obtain ⟨a, ha, ev⟩ := h
    refine ⟨a, ?_, ev⟩
    rw [List.getElem?_append_left (List.getElem?_eq_some_iff.mp ha).1]
    exact ha
  | .exn _, _, h => h
theorem RepVs.grow {K : PySem.W.Frag} {ρ r : List Addr} {H : Hp} : ∀ {ds : List D} {vs : List V}, RepVs K ρ H ds vs → RepVs K (ρ ++ r) H ds vs
  | [], _, h => h
  | x :: xs, vs, h => by
    unfold RepVs at h ⊢
    obtain ⟨v, q, ev, h1, h2⟩ := h
    exact ⟨v, q, ev, RepV.grow h1, RepVs.grow h2⟩
end
theorem RepP.grow {K : PySem.W.Frag} {ρ r : List Addr} {H : Hp} {κ : Type} : ∀ {kvs : List (κ × D)} {ps : List (κ × V)}, RepP K ρ H kvs ps → RepP K (ρ ++ r) H kvs ps
  | [], _, h => h
  | (k, x) :: q, ps, h => by
    unfold RepP at h ⊢
    obtain ⟨v, q, ev, h1, h2⟩ := h
    exact ⟨v, q, ev, h1.grow, RepP.grow h2⟩
section
variable {K : PySem.W.Frag} {cA : Nat → Addr} {ρ : List Addr} {H : Hp} {S : Store}
theorem RepC.grow {r : List Addr} {c : Cell} {a : Addr} (h : RepC K cA ρ H c a) : RepC K cA (ρ ++ r) H c a := by
  cases c with
  | lst xs => obtain ⟨vs, h1, h2⟩ := h; exact ⟨vs, h1, h2.grow⟩
  | dct kvs => obtain ⟨ps, h1, h2⟩ := h; exact ⟨ps, h1, h2.grow⟩
  | dlk kvs => obtain ⟨o, ps, h1, h2⟩ := h; exact ⟨o, ps, h1, h2.grow⟩
  | ins c fs => obtain ⟨dx, ps, h1, h2⟩ := h; exact ⟨dx, ps, h1, h2.grow⟩
/-- a cell is laid behind the store -/
theorem Reps.push (h : Reps K cA ρ H S) {p : Addr} {c : Cell} (hn : p ∉ ρ) (hc : RepC K cA ρ H c p) : Reps K cA (ρ ++ [p]) H (S ++ [c]) := by
  refine ⟨by rw [List.length_append, List.length_append, h.len]; rfl, List.nodup_append.mpr ⟨h.nd, by simp, fun a ha b hb => ?_⟩, fun n c' a hc' ha => ?_⟩
  · have e : b = p := by simpa using hb
    rintro rfl
    rw [← e] at hn
    exact hn ha
  · by_cases q : n < S.length
    · rw [List.getElem?_append_left q] at hc'
      rw [List.getElem?_append_left (by rw [h.len]; exact q)] at ha
      exact (h.at_ n c' a hc' ha).grow
    · have hq : n = S.length := by
        have := (List.getElem?_eq_some_iff.mp hc').1
        rw [List.length_append] at this
        simp only [List.length_cons, List.length_nil] at this
        omega
      rw [hq, List.getElem?_append_right (Nat.le_refl _)] at hc'
      rw [hq, List.getElem?_append_right (by rw [h.len]; exact Nat.le_refl _), h.len] at ha
      simp at hc' ha
      subst hc' ha
      exact hc.grow
/-- a cell is written -/
theorem Ext.write {n : Nat} {a : Addr} {o u : HO} (ha : ρ[n]? = some a) (hu : H a = some u) (mu : Mut (some u)) : Ext ρ H ρ (upd H a o) := by
  refine ⟨⟨[], by simp, fun _ h => nomatch h⟩, fun b q h nb => ?_, fun b xs h => ?_, fun b q xs h => ?_, fun b h => ?_⟩
  · have ne : b ≠ a := fun e => nb (by rw [e]; exact List.mem_of_getElem? ha)
    rw [upd_ne ne]; exact h
  · have ne : b ≠ a := by
      rintro rfl
      rcases h with h | ⟨v, h⟩ <;> (rw [h] at hu; cases hu; exact mu)
    rcases h with h | ⟨v, h⟩
    · exact .inl (by rw [upd_ne ne]; exact h)
    · exact .inr ⟨v, by rw [upd_ne ne]; exact h⟩
  · have ne : b ≠ a := by
      rintro rfl
      rw [h] at hu; cases hu; exact mu
    rw [upd_ne ne]; exact h
  · by_cases e : b = a
    · rw [e, upd_same]; simp
    · rw [upd_ne e]; exact h
theorem Reps.write (h : Reps K cA ρ H S) {n : Nat} {a : Addr} {o u : HO} {c : Cell} (ha : ρ[n]? = some a) (hu : H a = some u) (mu : Mut (some u)) (hc : RepC K cA ρ (upd H a o) c a) : Reps K cA ρ (upd H a o) (S.set n c) := by
  have e : Ext ρ H ρ (upd H a o) := Ext.write ha hu mu
  refine ⟨by rw [List.length_set]; exact h.len, h.nd, fun m c' b hc' hb => ?_⟩
  by_cases q : m = n
  · subst q
    rw [ha] at hb
    cases hb
    have hm : m < S.length := by
      have := (List.getElem?_eq_some_iff.mp hc').1
      rwa [List.length_set] at this
    rw [List.getElem?_set_self hm] at hc'
    cases hc'
    exact hc
  · rw [List.getElem?_set_ne (Ne.symm q)] at hc'
    have ne : b ≠ a := by
      rintro rfl
      exact q (nodup_ix' h.nd hb ha)
    exact (h.at_ m c' b hc' hb).ext e (upd_ne ne)
where
  nodup_ix' {N : List Addr} (hN : N.Nodup) {i j : Nat} {x : Addr} (a : N[i]? = some x) (b : N[j]? = some x) : i = j := by
    obtain ⟨h1, e1⟩ := List.getElem?_eq_some_iff.mp a
    obtain ⟨h2, e2⟩ := List.getElem?_eq_some_iff.mp b
    exact (List.getElem_inj hN).mp (e1.trans e2.symm)
end

/-! ### the canonical reading -/
section
variable {α β : Type}
abbrev Rel (α β : Type) := Hp → List Addr → Hp → α → β → Prop
def After (K : PySem.W.Frag) (cA : Nat → Addr) (W : XK) (ρ : List Addr) (H : Hp) (rep : Rel α β) (r : R α) (Q : β → Hp → Prop) : Prop := match r with
  | .ok a S => ∀ ρ' H' b, Ext ρ H ρ' H' → Reps K cA ρ' H' S → rep H ρ' H' a b → Q b H'
  | .ex x S => ∀ ρ' H' c d, Ext ρ H ρ' H' → Reps K cA ρ' H' S → RepX K cA ρ' H' x c d → W c d H'
  | .bad => False
variable {K : PySem.W.Frag} {cA : Nat → Addr} {W : XK} {ρ ρ0 : List Addr} {H H0 : Hp}
theorem After.imp {rep : Rel α β} {r : R α} {Q Q' : β → Hp → Prop} (h : After K cA W ρ H rep r Q) (q : ∀ b H', Q b H' → Q' b H') : After K cA W ρ H rep r Q' := by
  cases r with
  | ok a S => exact fun ρ' H' b e hs hr => q b H' (h ρ' H' b e hs hr)
  | ex x S => exact h
  | bad => exact h
/-- what a relation must bear: it may be told of an earlier heap -/
def Stable (rep : Rel α β) : Prop := ∀ (ρ : List Addr) (H : Hp) (ρ1 : List Addr) (H1 : Hp) (ρ' : List Addr) (H' : Hp) (a : α) (b : β), Ext ρ H ρ1 H1 → rep H1 ρ' H' a b → rep H ρ' H' a b
theorem After.back {rep : Rel α β} (st : Stable rep) {r : R α} {Q : β → Hp → Prop} (e : Ext ρ0 H0 ρ H) (h : After K cA W ρ0 H0 rep r Q) : After K cA W ρ H rep r Q := by
  cases r with
  | ok a S => exact fun ρ' H' b e' hs hr => h ρ' H' b (e.trans e') hs (st _ _ _ _ _ _ _ _ e hr)
  | ex x S => exact fun ρ' H' c d e' hs hr => h ρ' H' c d (e.trans e') hs hr
  | bad => exact h
/-- one thing, then another -/
theorem After.bind {γ δ : Type} {rep : Rel α β} {rep' : Rel γ δ} (st : Stable rep') {r : R α} {f : α → Store → R γ} {Q : δ → Hp → Prop} (h : After K cA W ρ H rep' (r.bind f) Q) :
    After K cA W ρ H rep r fun b H1 => ∃ ρ1 S1 a, Ext ρ H ρ1 H1 ∧ Reps K cA ρ1 H1 S1 ∧ rep H ρ1 H1 a b ∧ After K cA W ρ1 H1 rep' (f a S1) Q := by
  cases r with
  | ok a S => exact fun ρ' H' b e hs hr => ⟨ρ', S, a, e, hs, hr, h.back st e⟩
  | ex x S => exact h
  | bad => exact h
end
/-- the relations -/
abbrev rV (K : PySem.W.Frag) : Rel D V := fun _ ρ H d v => RepV K ρ H d v
abbrev rVs (K : PySem.W.Frag) : Rel (List D) (List V) := fun _ ρ H d v => RepVs K ρ H d v
abbrev rId {α : Type} : Rel α α := fun _ _ _ a b => a = b
/-- a new list that nobody else has -/
def rNew (K : PySem.W.Frag) : Rel (List D) V := fun H0 ρ H ds v => ∃ p vs, v = .ref p ∧ H0 p = none ∧ p ∉ ρ ∧ H p = some (.lst vs) ∧ RepVs K ρ H ds vs
theorem st_V {K : PySem.W.Frag} : Stable (rV K) := fun _ _ _ _ _ _ _ _ _ h => h
theorem st_Vs {K : PySem.W.Frag} : Stable (rVs K) := fun _ _ _ _ _ _ _ _ _ h => h
theorem st_Id {α : Type} : Stable (rId (α := α)) := fun _ _ _ _ _ _ _ _ _ h => h
theorem st_New {K : PySem.W.Frag} : Stable (rNew K) := fun ρ H ρ1 H1 ρ' H' a b e h => by
  obtain ⟨p, vs, ev, h0, h1, h2, h3⟩ := h
  refine ⟨p, vs, ev, ?_, h1, h2, h3⟩
  cases q : H p with
  | none => rfl
  | some o => exact absurd h0 (e.there p (by rw [q]; simp))
section
variable {α β : Type}
def tG (K : PySem.W.Frag) (cA : Nat → Addr) (W : XK) (rep : Rel α β) (m : Loc → Store → R α) : St → Hp → (β → Hp → Prop) → Prop := fun σ H Q =>
  ∃ ρ S l, Reps K cA ρ H S ∧ RepL K ρ H l σ ∧ After K cA W ρ H rep (m l S) Q
end
abbrev ME := Loc → Store → R D
abbrev MB := Loc → Store → R Bool
abbrev MA := Loc → Store → R (List D)
abbrev tE (K : PySem.W.Frag) (cA : Nat → Addr) (W : XK) (m : ME) : TE := tG K cA W (rV K) m
abbrev tT (K : PySem.W.Frag) (cA : Nat → Addr) (W : XK) (m : MB) : TT := tG K cA W rId m
abbrev tAs (K : PySem.W.Frag) (cA : Nat → Addr) (W : XK) (m : MA) : TA := tG K cA W (rVs K) m
abbrev tNw (K : PySem.W.Frag) (cA : Nat → Addr) (W : XK) (m : MA) : TE := tG K cA W (rNew K) m
/-- operations on values -/
def t2 (K : PySem.W.Frag) (cA : Nat → Addr) (W : XK) {β : Type} {α : Type} (rep : Rel α β) (f : D → D → Store → R α) : V → V → Hp → (β → Hp → Prop) → Prop := fun x y H Q =>
  ∃ ρ S d e, Reps K cA ρ H S ∧ RepV K ρ H d x ∧ RepV K ρ H e y ∧ After K cA W ρ H rep (f d e S) Q
def t1 (K : PySem.W.Frag) (cA : Nat → Addr) (W : XK) {β : Type} {α : Type} (rep : Rel α β) (f : D → Store → R α) : V → Hp → (β → Hp → Prop) → Prop := fun x H Q =>
  ∃ ρ S d, Reps K cA ρ H S ∧ RepV K ρ H d x ∧ After K cA W ρ H rep (f d S) Q
def tN (K : PySem.W.Frag) (cA : Nat → Addr) (W : XK) {β : Type} {α : Type} (rep : Rel α β) (f : List D → Store → R α) : List V → Hp → (β → Hp → Prop) → Prop := fun xs H Q =>
  ∃ ρ S ds, Reps K cA ρ H S ∧ RepVs K ρ H ds xs ∧ After K cA W ρ H rep (f ds S) Q

/-! ### weaker readings -/
theorem _root_.L2.PE.imp {X : Cx} {e : Expr} {t t' : TE} (h : PE X e t) (i : ∀ σ H Q, t' σ H Q → t σ H Q) : PE X e t' := ⟨fun pins s σ H Q I q => h.run pins s σ H Q I (i σ H Q q)⟩
theorem _root_.L2.PT.imp {X : Cx} {e : Expr} {t t' : TT} (h : PT X e t) (i : ∀ σ H Q, t' σ H Q → t σ H Q) : PT X e t' := ⟨fun pins s σ H Q I q => h.run pins s σ H Q I (i σ H Q q)⟩
theorem _root_.L2.PW.imp {X : Cx} {e : Expr} {t t' : TT} (h : PW X e t) (i : ∀ σ H Q, t' σ H Q → t σ H Q) : PW X e t' := ⟨fun wh pins s σ H Q I q => h.run wh pins s σ H Q I (i σ H Q q)⟩
theorem _root_.L2.PA.imp {X : Cx} {es : List Expr} {t t' : TA} (h : PA X es t) (i : ∀ σ H Q, t' σ H Q → t σ H Q) : PA X es t' := ⟨fun pos pins s σ H Q I q => h.run pos pins s σ H Q I (i σ H Q q)⟩
theorem _root_.L2.PS.imp {X : Cx} {st : Stmt} {t t' : TS} (h : PS X st t) (i : ∀ E σ H, t' E σ H → t E σ H) : PS X st t' := ⟨fun pins s σ H E I q => h.run pins s σ H E I (i E σ H q)⟩
theorem _root_.L2.PSs.imp {X : Cx} {st : List Stmt} {t t' : TS} (h : PSs X st t) (i : ∀ E σ H, t' E σ H → t E σ H) : PSs X st t' := ⟨fun pins s σ H E I q => h.run pins s σ H E I (i E σ H q)⟩
theorem OpR.imp {X : Cx} {f : Value → Value → Sem Value} {r r' : R2} (h : OpR X f r) (i : ∀ x y H Q, r' x y H Q → r x y H Q) : OpR X f r' := fun pins s σ H x y v u Q I rx ry q => h pins s σ H x y v u Q I rx ry (i _ _ _ _ q)
theorem CallR.imp {X : Cx} {f : Value} {r r' : List V → Hp → VK → Prop} (h : CallR X f r) (i : ∀ xs H Q, r' xs H Q → r xs H Q) : CallR X f r' := fun pins s σ H xs us Q I rx q => h pins s σ H xs us Q I rx (i _ _ _ q)
end ML

set_option Elab.async false
set_option linter.all false
set_option maxRecDepth 100000
set_option autoImplicit false
/-! ML2: what is done with values, and its rules. -/
namespace ML
open PySem PySem.Spec L2

/-! ### lists of data -/
section
variable {K : PySem.W.Frag} {ρ : List Addr} {H : Hp}
theorem RepVs.length : ∀ {ds : List D} {vs : List V}, RepVs K ρ H ds vs → vs.length = ds.length
  | [], vs, h => by unfold RepVs at h; rw [h]; rfl
  | x :: xs, vs, h => by
    unfold RepVs at h
    obtain ⟨v, r, e, _, h2⟩ := h
    rw [e, List.length_cons, List.length_cons, RepVs.length h2]
theorem RepVs.nil : RepVs K ρ H [] [] := by unfold RepVs; rfl
theorem RepVs.cons {d : D} {v : V} {ds : List D} {vs : List V} (h : RepV K ρ H d v) (h2 : RepVs K ρ H ds vs) : RepVs K ρ H (d :: ds) (v :: vs) := by unfold RepVs; exact ⟨v, vs, rfl, h, h2⟩
theorem RepVs.append : ∀ {ds es : List D} {vs ws : List V}, RepVs K ρ H ds vs → RepVs K ρ H es ws → RepVs K ρ H (ds ++ es) (vs ++ ws)
  | [], _, vs, ws, h, h2 => by unfold RepVs at h; rw [h]; exact h2
  | x :: xs, _, vs, ws, h, h2 => by
    unfold RepVs at h
    obtain ⟨v, r, e, h1, hr⟩ := h
    rw [e]
    exact RepVs.cons h1 (RepVs.append hr h2)
theorem RepVs.get : ∀ {ds : List D} {vs : List V}, RepVs K ρ H ds vs → ∀ (i : Nat) (d : D), ds[i]? = some d → ∃ v, vs[i]? = some v ∧ RepV K ρ H d v
  | [], _, _, i, d, e => by simp at e
  | x :: xs, vs, h, i, d, e => by
    unfold RepVs at h
    obtain ⟨v, r, ev, h1, h2⟩ := h
    rw [ev]
    cases i with
    | zero => simp at e; subst e; exact ⟨v, rfl, h1⟩
    | succ i => simpa using RepVs.get h2 i d (by simpa using e)
theorem RepVs.get' : ∀ {ds : List D} {vs : List V}, RepVs K ρ H ds vs → ∀ (i : Nat) (v : V), vs[i]? = some v → ∃ d, ds[i]? = some d ∧ RepV K ρ H d v
  | [], vs, h, i, v, e => by unfold RepVs at h; rw [h] at e; simp at e
  | x :: xs, vs, h, i, v, e => by
    unfold RepVs at h
    obtain ⟨w, r, ev, h1, h2⟩ := h
    rw [ev] at e
    cases i with
    | zero => simp at e; subst e; exact ⟨x, rfl, h1⟩
    | succ i => simpa using RepVs.get' h2 i v (by simpa using e)
theorem RepVs.take : ∀ {ds : List D} {vs : List V} (n : Nat), RepVs K ρ H ds vs → RepVs K ρ H (ds.take n) (vs.take n)
  | _, _, 0, _ => by rw [List.take_zero, List.take_zero]; exact .nil
  | [], vs, n + 1, h => by unfold RepVs at h; rw [h]; exact .nil
  | x :: xs, vs, n + 1, h => by
    unfold RepVs at h
    obtain ⟨v, r, e, h1, h2⟩ := h
    rw [e, List.take_succ_cons, List.take_succ_cons]
    exact .cons h1 (RepVs.take n h2)
theorem RepVs.drop : ∀ {ds : List D} {vs : List V} (n : Nat), RepVs K ρ H ds vs → RepVs K ρ H (ds.drop n) (vs.drop n)
  | _, _, 0, h => h
  | [], vs, n + 1, h => by unfold RepVs at h; rw [h]; exact .nil
  | x :: xs, vs, n + 1, h => by
    unfold RepVs at h
    obtain ⟨v, r, e, h1, h2⟩ := h
    rw [e, List.drop_succ_cons, List.drop_succ_cons]
    exact RepVs.drop n h2
theorem RepVs.set {d : D} {v : V} (hv : RepV K ρ H d v) : ∀ {ds : List D} {vs : List V} (n : Nat), RepVs K ρ H ds vs → RepVs K ρ H (ds.set n d) (vs.set n v)
  | [], vs, _, h => by unfold RepVs at h; rw [h]; exact .nil
  | x :: xs, vs, n, h => by
    unfold RepVs at h
    obtain ⟨w, r, e, h1, h2⟩ := h
    rw [e]
    cases n with
    | zero => exact .cons hv h2
    | succ n => exact .cons h1 (RepVs.set hv n h2)
theorem RepVs.ints : ∀ {ns : List Int} {vs : List V}, RepVs K ρ H (ns.map D.int) vs → vs = ns.map V.int
  | [], vs, h => by unfold RepVs at h; exact h
  | n :: ns, vs, h => by
    rw [List.map_cons] at h
    unfold RepVs at h
    obtain ⟨w, r, e, h1, h2⟩ := h
    unfold RepV at h1
    rw [e, h1, List.map_cons, RepVs.ints h2]
theorem RepVs.of_ints : ∀ {ns : List Int}, RepVs K ρ H (ns.map D.int) (ns.map V.int)
  | [] => by exact .nil
  | n :: ns => by
    rw [List.map_cons, List.map_cons]
    exact .cons (by unfold RepV; rfl) RepVs.of_ints
end

/-! ### cells -/
def lstAt (S : Store) (n : Nat) : Option (List D) := match S[n]? with
  | some (.lst xs) => some xs
  | _ => none
def dctAt (S : Store) (n : Nat) : Option (List (Key × D)) := match S[n]? with
  | some (.dct kvs) => some kvs
  | _ => none
def insAt (S : Store) (n : Nat) : Option (Nat × List (Str × D)) := match S[n]? with
  | some (.ins c fs) => some (c, fs)
  | _ => none
theorem lstAt_of {S : Store} {n : Nat} {xs : List D} (h : S[n]? = some (.lst xs)) : lstAt S n = some xs := by unfold lstAt; rw [h]
theorem dctAt_of {S : Store} {n : Nat} {xs : List (Key × D)} (h : S[n]? = some (.dct xs)) : dctAt S n = some xs := by unfold dctAt; rw [h]
theorem insAt_of {S : Store} {n c : Nat} {fs : List (Str × D)} (h : S[n]? = some (.ins c fs)) : insAt S n = some (c, fs) := by unfold insAt; rw [h]
theorem lstAt_some {S : Store} {n : Nat} {xs : List D} (h : lstAt S n = some xs) : S[n]? = some (.lst xs) := by
  unfold lstAt at h
  split at h
  · rename_i ys e; cases h; exact e
  · cases h
theorem dctAt_some {S : Store} {n : Nat} {xs : List (Key × D)} (h : dctAt S n = some xs) : S[n]? = some (.dct xs) := by
  unfold dctAt at h
  split at h
  · rename_i ys e; cases h; exact e
  · cases h
theorem insAt_some {S : Store} {n c : Nat} {fs : List (Str × D)} (h : insAt S n = some (c, fs)) : S[n]? = some (.ins c fs) := by
  unfold insAt at h
  split at h
  · rename_i c' fs' e; cases h; exact e
  · cases h
/-- a dict that is read, locked or not -/
def kvAt (S : Store) (n : Nat) : Option (List (Key × D)) := match S[n]? with
  | some (.dct kvs) => some kvs
  | some (.dlk kvs) => some kvs
  | _ => none
theorem kvAt_of {S : Store} {n : Nat} {xs : List (Key × D)} (h : S[n]? = some (.dct xs)) : kvAt S n = some xs := by unfold kvAt; rw [h]
theorem kvAt_some {S : Store} {n : Nat} {xs : List (Key × D)} (h : kvAt S n = some xs) : S[n]? = some (.dct xs) ∨ S[n]? = some (.dlk xs) := by
  unfold kvAt at h
  split at h
  · rename_i ys e; cases h; exact .inl e
  · rename_i ys e; cases h; exact .inr e
  · cases h
/-- the items of what is a list -/
def lstOf (S : Store) : D → Option (List D)
  | .lis xs => some xs
  | .ref n => lstAt S n
  | _ => none
/-- .. a list or a tuple -/
def seqOf (S : Store) : D → Option (List D)
  | .tup xs => some xs
  | .lis xs => some xs
  | .ref n => lstAt S n
  | _ => none
def newC (c : Cell) (S : Store) : R D := .ok (.ref S.length) (S ++ [c])
section
variable {K : PySem.W.Frag} {cA : Nat → Addr} {ρ : List Addr} {H : Hp} {S : Store}
/-- the cell at a reference -/
theorem ref_rep (hS : Reps K cA ρ H S) {n : Nat} {v : V} {c : Cell} (hv : RepV K ρ H (.ref n) v) (h : S[n]? = some c) : ∃ a, v = .ref a ∧ ρ[n]? = some a ∧ RepC K cA ρ H c a := by
  unfold RepV at hv
  obtain ⟨a, ha, ev⟩ := hv
  exact ⟨a, ev, ha, hS.at_ n c a h ha⟩
theorem rlst_rep (hS : Reps K cA ρ H S) {n : Nat} {v : V} {xs : List D} (hv : RepV K ρ H (.ref n) v) (h : lstAt S n = some xs) : ∃ a vs, v = .ref a ∧ ρ[n]? = some a ∧ H a = some (.lst vs) ∧ RepVs K ρ H xs vs := by
  obtain ⟨a, e, ha, vs, h1, h2⟩ := ref_rep hS hv (lstAt_some h)
  exact ⟨a, vs, e, ha, h1, h2⟩
theorem rdct_rep (hS : Reps K cA ρ H S) {n : Nat} {v : V} {xs : List (Key × D)} (hv : RepV K ρ H (.ref n) v) (h : dctAt S n = some xs) : ∃ a vs, v = .ref a ∧ ρ[n]? = some a ∧ H a = some (.dK vs) ∧ RepP K ρ H xs vs := by
  obtain ⟨a, e, ha, vs, h1, h2⟩ := ref_rep hS hv (dctAt_some h)
  exact ⟨a, vs, e, ha, h1, h2⟩
theorem rkv_rep (hS : Reps K cA ρ H S) {n : Nat} {v : V} {xs : List (Key × D)} (hv : RepV K ρ H (.ref n) v) (h : kvAt S n = some xs) : ∃ a vs, v = .ref a ∧ ρ[n]? = some a ∧ Rd H a (.dK vs) ∧ RepP K ρ H xs vs := by
  rcases kvAt_some h with h | h
  · obtain ⟨a, e, ha, vs, h1, h2⟩ := ref_rep hS hv h
    exact ⟨a, vs, e, ha, .inl h1, h2⟩
  · obtain ⟨a, e, ha, o, vs, h1, h2⟩ := ref_rep hS hv h
    exact ⟨a, vs, e, ha, .inr ⟨o, h1⟩, h2⟩
theorem rins_rep (hS : Reps K cA ρ H S) {n c : Nat} {v : V} {fs : List (Str × D)} (hv : RepV K ρ H (.ref n) v) (h : insAt S n = some (c, fs)) : ∃ a dx vs, v = .ref a ∧ ρ[n]? = some a ∧ H a = some (.ins (cA c) dx vs) ∧ RepP K ρ H fs vs := by
  obtain ⟨a, e, ha, dx, vs, h1, h2⟩ := ref_rep hS hv (insAt_some h)
  exact ⟨a, dx, vs, e, ha, h1, h2⟩
theorem lst_rep (hS : Reps K cA ρ H S) {d : D} {v : V} {xs : List D} (hv : RepV K ρ H d v) (h : lstOf S d = some xs) : ∃ a vs, v = .ref a ∧ SqL K H a vs ∧ RepVs K ρ H xs vs := by
  cases d with
  | lis ys =>
    have e : ys = xs := Option.some.inj h
    subst e
    unfold RepV at hv
    obtain ⟨a, vs, ev, hf, hr⟩ := hv
    exact ⟨a, vs, ev, hf.sq, hr⟩
  | ref n =>
    obtain ⟨a, vs, e, _, h1, h2⟩ := rlst_rep hS hv h
    exact ⟨a, vs, e, SqL.of h1, h2⟩
  | _ => cases h
theorem seq_rep (hS : Reps K cA ρ H S) {d : D} {v : V} {xs : List D} (hv : RepV K ρ H d v) (h : seqOf S d = some xs) : ∃ a vs, v = .ref a ∧ (SqL K H a vs ∨ SqT K H a vs) ∧ RepVs K ρ H xs vs := by
  cases d with
  | tup ys =>
    have e : ys = xs := Option.some.inj h
    subst e
    unfold RepV at hv
    obtain ⟨a, vs, ev, hf, hr⟩ := hv
    exact ⟨a, vs, ev, .inr hf, hr⟩
  | lis ys => obtain ⟨a, vs, ev, h1, h2⟩ := lst_rep hS hv h; exact ⟨a, vs, ev, .inl h1, h2⟩
  | ref n => obtain ⟨a, vs, ev, h1, h2⟩ := lst_rep hS hv h; exact ⟨a, vs, ev, .inl h1, h2⟩
  | _ => cases h
theorem Reps.free (hS : Reps K cA ρ H S) {p : Addr} (hp : H p = none) : p ∉ ρ := fun hm => by
  obtain ⟨o, ho, _⟩ := hS.mem hm
  rw [hp] at ho; cases ho
/-- a new cell -/
theorem After.new {W : XK} {c : Cell} {p : Addr} {o : HO} {Q : V → Hp → Prop} (h : After K cA W ρ H (rV K) (newC c S) Q) (hS : Reps K cA ρ H S) (hp : H p = none) (hc : RepC K cA ρ (upd H p o) c p) : Q (.ref p) (upd H p o) := by
  refine h (ρ ++ [p]) _ _ (Ext.alloc hp) ((hS.new hp).push (hS.free hp) hc) ?_
  show RepV K (ρ ++ [p]) _ (.ref S.length) (.ref p)
  unfold RepV
  exact ⟨p, by rw [← hS.len, List.getElem?_append_right (Nat.le_refl _)]; simp, rfl⟩
/-- a new tuple -/
theorem After.tup {W : XK} {xs : List D} {vs : List V} {p : Addr} {Q : V → Hp → Prop} (h : After K cA W ρ H (rV K) (.ok (.tup xs) S) Q) (hS : Reps K cA ρ H S) (hp : H p = none) (hr : RepVs K ρ H xs vs) : Q (.ref p) (upd H p (.tup vs)) := by
  refine h ρ _ _ (Ext.new hp) (hS.new hp) ?_
  show RepV K ρ _ (.tup xs) (.ref p)
  unfold RepV
  exact ⟨p, vs, rfl, SqT.of upd_same, hr.ext (Ext.new hp)⟩
/-- the end where nothing has changed -/
theorem After.same {α β : Type} {W : XK} {rep : Rel α β} {a : α} {b : β} {Q : β → Hp → Prop} (h : After K cA W ρ H rep (.ok a S) Q) (hS : Reps K cA ρ H S) (hr : rep H ρ H a b) : Q b H := h ρ H b (Ext.refl ρ H) hS hr
end

/-! ### numbers, texts -/
def mulOk (i j : Int) : Bool := decide (-(2 ^ 64) < i) && decide (i < 2 ^ 64) || decide (-(2 ^ 64) < j) && decide (j < 2 ^ 64)
def addD : D → D → Store → R D
  | .int i, .int j, S => .ok (.int (i + j)) S
  | .str x, .str y, S => if x.length + y.length ≤ sizeLine then .ok (.str (x ++ y)) S else .bad
  | .tup xs, .tup ys, S => if xs.length + ys.length ≤ sizeLine then .ok (.tup (xs ++ ys)) S else .bad
  | .ref n, .ref m, S => match lstAt S n, lstAt S m with
    | some xs, some ys => if xs.length + ys.length ≤ sizeLine then newC (.lst (xs ++ ys)) S else .bad
    | _, _ => .bad
  | _, _, _ => .bad
def subD : D → D → Store → R D
  | .int i, .int j, S => .ok (.int (i - j)) S
  | _, _, _ => .bad
/-- a text n times -/
def repS (x : Str) (n : Nat) : Str := ⟨(List.replicate n x.cps).foldl (· ++ ·) #[]⟩
def mulD : D → D → Store → R D
  | .int i, .int j, S => if mulOk i j then .ok (.int (i * j)) S else .bad
  | .str x, .int n, S => if n ≤ 0 ∧ -(2 ^ 63) ≤ n then .ok (.str Str.empty) S else if n = 1 then .ok (.str x) S else if 2 ≤ n ∧ 0 < x.length ∧ n < 2 ^ 32 ∧ x.length * n.toNat ≤ 16777216 then .ok (.str (repS x n.toNat)) S else .bad
  | _, _, _ => .bad
def fdivD : D → D → Store → R D
  | .int i, .int j, S => if 0 < j ∧ j < 1073741824 then .ok (.int (i / j)) S else .bad
  | _, _, _ => .bad
def modD : D → D → Store → R D
  | .int i, .int j, S => if 0 < j then .ok (.int (i % j)) S else .bad
  | _, _, _ => .bad
def powD : D → D → Store → R D
  | .int i, .int j, S => if 0 ≤ j ∧ j ≤ 1000000 ∧ i.natAbs < 2 ^ 64 then .ok (.int (i ^ j.toNat)) S else .bad
  | _, _, _ => .bad
def negD : D → Store → R D
  | .int i, S => .ok (.int (-i)) S
  | _, _ => .bad
def ltD : D → D → Store → R Bool
  | .int i, .int j, S => .ok (decide (i < j)) S
  | .str x, .str y, S => .ok (decide (x.cps.toList < y.cps.toList)) S
  | _, _, _ => .bad
def leD : D → D → Store → R Bool
  | .int i, .int j, S => .ok (decide (i ≤ j)) S
  | .str x, .str y, S => .ok (!decide (y.cps.toList < x.cps.toList)) S
  | _, _, _ => .bad
def gtD : D → D → Store → R Bool
  | .int i, .int j, S => .ok (decide (j < i)) S
  | _, _, _ => .bad
def geD : D → D → Store → R Bool
  | .int i, .int j, S => .ok (decide (j ≤ i)) S
  | _, _, _ => .bad
section
variable {X : Cx} {cA : Nat → Addr} {W : XK}
theorem op_addM : OpR X (binaryOp .Add) (t2 X.K cA W (rV X.K) addD) := by
  refine OpR.imp ((op_add (X := X)).or ((op_add_str (X := X)).or ((op_catA (X := X)).or (op_cat (X := X))))) fun x y H Q h => ?_
  obtain ⟨ρ, S, d, e, hS, hd, he, h⟩ := h
  unfold addD at h
  split at h
  · unfold RepV at hd he
    exact .inl ⟨_, _, hd, he, h.same hS (by unfold rV RepV; rfl)⟩
  · split at h
    · rename_i hl
      unfold RepV at hd he
      exact .inr (.inl ⟨_, _, hd, he, hl, h.same hS (by unfold rV RepV; rfl)⟩)
    · exact h.elim
  · split at h
    · rename_i xs ys hl
      have hd' := hd
      have he' := he
      unfold RepV at hd he
      obtain ⟨a, vs, ex, h1, r1⟩ := hd
      obtain ⟨b, ws, ey, h2, r2⟩ := he
      have nl1 : vs = [] → xs = [] := fun z => List.eq_nil_of_length_eq_zero (by rw [← r1.length, z]; rfl)
      have nl2 : ws = [] → ys = [] := fun z => List.eq_nil_of_length_eq_zero (by rw [← r2.length, z]; rfl)
      refine .inr (.inr (.inl ⟨a, b, vs, ws, ex, ey, h1, h2, by rw [r1.length, r2.length]; exact hl, fun z => ?_, fun _ z => ?_, fun _ _ p hp => h.tup hS hp (r1.append r2)⟩))
      · rw [nl1 z, List.nil_append] at h
        rw [ey] at he'
        exact h.same hS he'
      · rw [nl2 z, List.append_nil] at h
        rw [ex] at hd'
        exact h.same hS hd'
    · exact h.elim
  · split at h
    · rename_i xs ys e1 e2
      split at h
      · rename_i hl
        obtain ⟨a, vs, ex, ha, h1, r1⟩ := rlst_rep hS hd e1
        obtain ⟨b, ws, ey, hb, h2, r2⟩ := rlst_rep hS he e2
        exact .inr (.inr (.inr ⟨a, b, vs, ws, ex, ey, h1, h2, by rw [r1.length, r2.length]; exact hl, fun p hp => h.new hS hp ⟨_, upd_same, (r1.append r2).ext (Ext.new hp)⟩⟩))
      · exact h.elim
    · exact h.elim
  · exact h.elim
theorem op_subM : OpR X (binaryOp .Sub) (t2 X.K cA W (rV X.K) subD) := by
  refine OpR.imp (op_sub (X := X)) fun x y H Q h => ?_
  obtain ⟨ρ, S, d, e, hS, hd, he, h⟩ := h
  unfold subD at h
  split at h
  · unfold RepV at hd he
    exact ⟨_, _, hd, he, h.same hS (by unfold rV RepV; rfl)⟩
  · exact h.elim
theorem mulOk_of {i j : Int} (h : mulOk i j = true) : CMul i j := by
  unfold mulOk at h
  simp only [Bool.or_eq_true, Bool.and_eq_true, decide_eq_true_eq] at h
  exact h
theorem rep_list (z : Str) : ∀ (n : Nat) (acc : Array Nat), ((List.replicate n z.cps).foldl (· ++ ·) acc).toList = acc.toList ++ (List.replicate n z.cps.toList).flatten
  | 0, acc => by simp
  | n + 1, acc => by
    rw [List.replicate_succ, List.foldl_cons, rep_list z n, List.replicate_succ, List.flatten_cons, Array.toList_append, List.append_assoc]
theorem rep_cs (z : Str) (n : Nat) : (repS z n).cps.toList = (List.replicate n z.cps.toList).flatten := by
  exact (rep_list z n #[]).trans (List.nil_append _)
theorem rep_len (z : Str) (n : Nat) : (repS z n).length = z.length * n := by
  show (repS z n).cps.size = z.cps.size * n
  rw [← Array.length_toList, rep_cs]
  induction n with
  | zero => rfl
  | succ n ih =>
    rw [List.replicate_succ, List.flatten_cons, List.length_append, ih, Array.length_toList, Nat.mul_succ, Nat.add_comm]
theorem op_mulStr : OpR X (binaryOp .Mult) (fun x y H Q => ∃ (z : Str) (n : Int), x = .str z ∧ y = .int n ∧
    ((n ≤ 0 ∧ -(2 ^ 63) ≤ n ∧ Q (.str Str.empty) H) ∨ (n = 1 ∧ Q (.str z) H) ∨ (2 ≤ n ∧ 0 < z.length ∧ n < 2 ^ 32 ∧ z.length * n.toNat ≤ 16777216 ∧ Q (.str (repS z n.toNat)) H))) := by
  intro pins s σ H x y v u Q I rx ry h
  obtain ⟨z, n, rfl, rfl, h⟩ := h
  obtain ⟨t, rfl⟩ := rx
  obtain ⟨t2, rfl⟩ := ry
  have fin : ∀ (r : Str) (tk : Tok), Q (.str r) H → EP X pins σ Q (.str r tk) { s with toks := s.toks + 1 } := fun r tk q => ⟨.str r, H, I.tok _, ⟨_, rfl⟩, q⟩
  rcases h with ⟨h0, h1, q⟩ | ⟨rfl, q⟩ | ⟨h2, h3, h4, h5, q⟩
  · exact PySem.P.mul_str_none (by omega) (by omega) (fin _ _ q)
  · refine PySem.P.mul_str (by decide) (fun _ z => nomatch z) (fun _ z => nomatch z) ?_
    rw [if_neg (by omega), if_pos (by simp)]
    exact ⟨.str z, H, I, ⟨_, rfl⟩, q⟩
  · have c1 : (decide (n < -(2 ^ 63 : Int)) || decide (n ≥ 2 ^ 63)) = false := by
      rw [decide_eq_false (by omega), decide_eq_false (by omega)]; rfl
    have hn : n = ((n.toNat : Nat) : Int) := by omega
    refine PySem.P.mul_str c1 (fun _ _ hz => ?_) (fun _ _ => ?_) ?_
    · have e : (z.length : Int) ≤ (2 ^ 63 - 1) / n := by
        refine (Int.le_ediv_iff_mul_le (by omega)).mpr ?_
        have : ((z.length * n.toNat : Nat) : Int) ≤ ((16777216 : Nat) : Int) := Int.ofNat_le.mpr h5
        rw [Int.natCast_mul, ← hn] at this
        have q : (9223372036854775807 : Int) = 2 ^ 63 - 1 := by decide
        omega
      omega
    · unfold PySem.Builtin.Str.tooLong
      rw [decide_eq_false]
      show ¬ sizeLine < _
      rw [sizeLine_eq]
      omega
    · rw [if_neg (by omega), if_neg]
      · refine ⟨?_, fin _ _ q⟩
        rw [sizeLine_eq]
        exact Nat.le_trans (Nat.le_of_eq (rep_len z n.toNat)) h5
      · simp
        omega
theorem op_mulM : OpR X (binaryOp .Mult) (t2 X.K cA W (rV X.K) mulD) := by
  refine OpR.imp ((op_mul (X := X)).or (op_mulStr (X := X))) fun x y H Q h => ?_
  obtain ⟨ρ, S, d, e, hS, hd, he, h⟩ := h
  unfold mulD at h
  split at h
  · split at h
    · rename_i hm
      unfold RepV at hd he
      exact .inl ⟨_, _, hd, he, mulOk_of hm, h.same hS (by unfold rV RepV; rfl)⟩
    · exact h.elim
  · rename_i z n _
    unfold RepV at hd he
    refine .inr ⟨_, _, hd, he, ?_⟩
    split at h
    · rename_i c
      exact .inl ⟨c.1, c.2, h.same hS (by unfold rV RepV; rfl)⟩
    · split at h
      · rename_i c
        exact .inr (.inl ⟨c, h.same hS (by unfold rV RepV; rfl)⟩)
      · split at h
        · rename_i c1 c2 c3
          exact .inr (.inr ⟨c3.1, c3.2.1, c3.2.2.1, c3.2.2.2, h.same hS (by unfold rV RepV; rfl)⟩)
        · exact h.elim
  · exact h.elim
theorem op_fdivM : OpR X (binaryOp .FloorDiv) (t2 X.K cA W (rV X.K) fdivD) := by
  refine OpR.imp (op_fdiv (X := X)) fun x y H Q h => ?_
  obtain ⟨ρ, S, d, e, hS, hd, he, h⟩ := h
  unfold fdivD at h
  split at h
  · split at h
    · rename_i hm
      unfold RepV at hd he
      exact ⟨_, _, hd, he, hm, h.same hS (by unfold rV RepV; rfl)⟩
    · exact h.elim
  · exact h.elim
theorem op_modM : OpR X (binaryOp .Mod) (t2 X.K cA W (rV X.K) modD) := by
  refine OpR.imp (op_mod (X := X)) fun x y H Q h => ?_
  obtain ⟨ρ, S, d, e, hS, hd, he, h⟩ := h
  unfold modD at h
  split at h
  · split at h
    · rename_i hm
      unfold RepV at hd he
      exact ⟨_, _, hd, he, hm, h.same hS (by unfold rV RepV; rfl)⟩
    · exact h.elim
  · exact h.elim
theorem op_powM : OpR X (binaryOp .Pow) (t2 X.K cA W (rV X.K) powD) := by
  refine OpR.imp (op_pow (X := X)) fun x y H Q h => ?_
  obtain ⟨ρ, S, d, e, hS, hd, he, h⟩ := h
  unfold powD at h
  split at h
  · split at h
    · rename_i hm
      unfold RepV at hd he
      exact ⟨_, _, hd, he, hm, h.same hS (by unfold rV RepV; rfl)⟩
    · exact h.elim
  · exact h.elim
theorem un_negM : UnR X (unaryOp .USub) (t1 X.K cA W (rV X.K) negD) := by
  refine fun pins s σ H x v Q I rx h => un_neg pins s σ H x v Q I rx ?_
  obtain ⟨ρ, S, d, hS, hd, h⟩ := h
  unfold negD at h
  split at h
  · unfold RepV at hd
    exact ⟨_, hd, h.same hS (by unfold rV RepV; rfl)⟩
  · exact h.elim
/-- a comparison's reading -/
abbrev tC2 (K : PySem.W.Frag) (cA : Nat → Addr) (W : XK) (f : D → D → Store → R Bool) : R2 := fun x y H Q => t2 K cA W rId f x y H fun b H' => Q (.bl b) H'
theorem op_ltM : OpR X (compareOp .Lt) (tC2 X.K cA W ltD) := by
  refine OpR.imp ((op_lt (X := X)).or (op_lt_str (X := X))) fun x y H Q h => ?_
  obtain ⟨ρ, S, d, e, hS, hd, he, h⟩ := h
  unfold ltD at h
  split at h
  · unfold RepV at hd he
    exact .inl ⟨_, _, hd, he, h.same hS rfl⟩
  · unfold RepV at hd he
    exact .inr ⟨_, _, hd, he, h.same hS rfl⟩
  · exact h.elim
theorem op_leM : OpR X (compareOp .LtE) (tC2 X.K cA W leD) := by
  refine OpR.imp ((op_le (X := X)).or (op_le_str (X := X))) fun x y H Q h => ?_
  obtain ⟨ρ, S, d, e, hS, hd, he, h⟩ := h
  unfold leD at h
  split at h
  · unfold RepV at hd he
    exact .inl ⟨_, _, hd, he, h.same hS rfl⟩
  · unfold RepV at hd he
    exact .inr ⟨_, _, hd, he, h.same hS rfl⟩
  · exact h.elim
theorem op_gtM : OpR X (compareOp .Gt) (tC2 X.K cA W gtD) := by
  refine OpR.imp (op_gt (X := X)) fun x y H Q h => ?_
  obtain ⟨ρ, S, d, e, hS, hd, he, h⟩ := h
  unfold gtD at h
  split at h
  · unfold RepV at hd he
    exact ⟨_, _, hd, he, h.same hS rfl⟩
  · exact h.elim
theorem op_geM : OpR X (compareOp .GtE) (tC2 X.K cA W geD) := by
  refine OpR.imp (op_ge (X := X)) fun x y H Q h => ?_
  obtain ⟨ρ, S, d, e, hS, hd, he, h⟩ := h
  unfold geD at h
  split at h
  · unfold RepV at hd he
    exact ⟨_, _, hd, he, h.same hS rfl⟩
  · exact h.elim
end
end ML

set_option Elab.async false
set_option linter.all false
set_option maxRecDepth 100000
set_option autoImplicit false
/-! ML3: equality, membership, length, truth, kinds, items, slices. -/
namespace ML
open PySem PySem.Spec L2

/-! ### equality -/
def mapO {α β : Type} (f : α → Option β) : List α → Option (List β)
  | [] => some []
  | x :: xs => match f x, mapO f xs with
    | some y, some ys => some (y :: ys)
    | _, _ => none
def toPy (S : Store) : Nat → D → Option PyData
  | _, .non => some .none
  | _, .bl b => some (.bool b)
  | _, .int i => some (.int i)
  | _, .str x => some (.str x)
  | _, .exn _ => none
  | 0, _ => none
  | k + 1, .tup xs => (mapO (toPy S k) xs).map .tuple
  | k + 1, .lis xs => (mapO (toPy S k) xs).map .list
  | k + 1, .ref n => match lstAt S n with
    | some xs => (mapO (toPy S k) xs).map .list
    | none => none
def eqPy (S : Store) (d e : D) : Option Bool := match toPy S 64 d, toPy S 64 e with
  | some a, some b => if SeqAt.shaped a = true ∧ SeqAt.shaped b = true then some (PyData.eqv a b) else none
  | _, _ => none
def eqO (S : Store) : D → D → Option Bool
  | .str x, .str y => some (decide (x = y))
  | .str _, .non => some false
  | .str _, .int _ => some false
  | .str _, .bl _ => some false
  | .non, .str _ => some false
  | .int _, .str _ => some false
  | .bl _, .str _ => some false
  | d, e => eqPy S d e
def eqD (d e : D) (S : Store) : R Bool := match eqO S d e with
  | some b => .ok b S
  | none => .bad
def neD (d e : D) (S : Store) : R Bool := match eqO S d e with
  | some b => .ok (!b) S
  | none => .bad
section
variable {K : PySem.W.Frag} {cA : Nat → Addr} {ρ : List Addr} {H : Hp} {S : Store}
theorem toPy_rep (hS : Reps K cA ρ H S) : ∀ (k : Nat) (d : D) (v : V) (p : PyData), toPy S k d = some p → RepV K ρ H d v → Dp K H v p
  | k, .non, v, p, h, r => by unfold RepV at r; subst r; cases k <;> (cases h; exact .non)
  | k, .bl b, v, p, h, r => by unfold RepV at r; subst r; cases k <;> (cases h; exact .bl b)
  | k, .int i, v, p, h, r => by unfold RepV at r; subst r; cases k <;> (cases h; exact .int i)
  | k, .str x, v, p, h, r => by unfold RepV at r; subst r; cases k <;> (cases h; exact .str x)
  | 0, .tup xs, v, p, h, r => nomatch h
  | 0, .lis xs, v, p, h, r => nomatch h
  | 0, .ref n, v, p, h, r => nomatch h
  | _, .exn a, v, p, h, r => by
    unfold toPy at h
    cases h
  | k + 1, .tup xs, v, p, h, r => by
    unfold RepV at r
    obtain ⟨a, vs, rfl, hs, hr⟩ := r
    have h : (mapO (toPy S k) xs).map PyData.tuple = some p := h
    obtain ⟨ps, e, rfl⟩ := Option.map_eq_some_iff.mp h
    exact .tup hs (all k xs vs ps e hr)
  | k + 1, .lis xs, v, p, h, r => by
    unfold RepV at r
    obtain ⟨a, vs, rfl, hs, hr⟩ := r
    have h : (mapO (toPy S k) xs).map PyData.list = some p := h
    obtain ⟨ps, e, rfl⟩ := Option.map_eq_some_iff.mp h
    exact .lst hs.sq (all k xs vs ps e hr)
  | k + 1, .ref n, v, p, h, r => by
    unfold toPy at h
    cases e : lstAt S n with
    | none => rw [e] at h; cases h
    | some xs =>
      rw [e] at h
      obtain ⟨a, vs, rfl, _, hs, hr⟩ := rlst_rep hS r e
      obtain ⟨ps, e, rfl⟩ := Option.map_eq_some_iff.mp h
      exact .lst (SqL.of hs) (all k xs vs ps e hr)
where
  all (k : Nat) : ∀ (xs : List D) (vs : List V) (ps : List PyData), mapO (toPy S k) xs = some ps → RepVs K ρ H xs vs → DpAll K H vs ps
  | [], vs, ps, h, r => by unfold RepVs at r; subst r; cases h; exact .nil
  | x :: xs, vs, ps, h, r => by
    unfold RepVs at r
    obtain ⟨v, q, rfl, h1, h2⟩ := r
    unfold mapO at h
    split at h
    · rename_i y ys e1 e2
      cases h
      exact .cons (toPy_rep hS k x v y e1 h1) (all k xs q ys e2 h2)
    · cases h
end
section
variable {X : Cx} {cA : Nat → Addr} {W : XK}
theorem eqO_rep {K : PySem.W.Frag} {ρ : List Addr} {H : Hp} {S : Store} (hS : Reps K cA ρ H S) {d e : D} {x y : V} {b : Bool} (hd : RepV K ρ H d x) (he : RepV K ρ H e y) (h : eqO S d e = some b) :
    (scal x y = true ∧ b = decide (x = y)) ∨ ∃ p q, Dp K H x p ∧ Dp K H y q ∧ SeqAt.shaped p = true ∧ SeqAt.shaped q = true ∧ b = PyData.eqv p q := by
  unfold eqO at h
  split at h
  all_goals first
    | (unfold RepV at hd he; subst hd he; cases h; exact .inl ⟨rfl, by simp⟩)
    | skip
  unfold eqPy at h
  split at h
  · rename_i p q e1 e2
    split at h
    · rename_i hz
      cases h
      exact .inr ⟨p, q, toPy_rep hS _ _ _ _ e1 hd, toPy_rep hS _ _ _ _ e2 he, hz.1, hz.2, rfl⟩
    · cases h
  · cases h
theorem op_eqM (hu : X.A.units + 64 < cLine) : OpR X (compareOp .Eq) (tC2 X.K cA W eqD) := by
  refine OpR.imp ((op_eq (X := X)).or (op_eqD (X := X) hu)) fun x y H Q h => ?_
  obtain ⟨ρ, S, d, e, hS, hd, he, h⟩ := h
  unfold eqD at h
  split at h
  · rename_i b hb
    have q := h.same hS rfl
    rcases eqO_rep hS hd he hb with ⟨h1, h2⟩ | ⟨p, r, h1, h2, h3, h4, h5⟩
    · subst h2; exact .inl ⟨h1, q⟩
    · subst h5; exact .inr ⟨p, r, h1, h2, h3, h4, q⟩
  · exact h.elim
theorem op_neM (hu : X.A.units + 64 < cLine) : OpR X (compareOp .NotEq) (tC2 X.K cA W neD) := by
  refine OpR.imp ((op_ne (X := X)).or (op_neD (X := X) hu)) fun x y H Q h => ?_
  obtain ⟨ρ, S, d, e, hS, hd, he, h⟩ := h
  unfold neD at h
  split at h
  · rename_i b hb
    have q := h.same hS rfl
    rcases eqO_rep hS hd he hb with ⟨h1, h2⟩ | ⟨p, r, h1, h2, h3, h4, h5⟩
    · subst h2; exact .inl ⟨h1, q⟩
    · subst h5; exact .inr ⟨p, r, h1, h2, h3, h4, q⟩
  · exact h.elim
end

/-! ### is -/
def isD : D → D → Store → R Bool
  | .non, .non, S => .ok true S
  | _, .non, S => .ok false S
  | .bl a, .bl b, S => .ok (decide (a = b)) S
  | _, _, _ => .bad
def isNotD : D → D → Store → R Bool
  | .non, .non, S => .ok false S
  | _, .non, S => .ok true S
  | .bl a, .bl b, S => .ok (!decide (a = b)) S
  | _, _, _ => .bad
theorem rep_non {K : PySem.W.Frag} {ρ : List Addr} {H : Hp} {d : D} {v : V} (h : RepV K ρ H d v) : v = .non ↔ d = .non := by
  cases d with
  | non => unfold RepV at h; simp [h]
  | bl b => unfold RepV at h; simp [h]
  | int b => unfold RepV at h; simp [h]
  | str b => unfold RepV at h; simp [h]
  | tup b => unfold RepV at h; obtain ⟨a, vs, e, _⟩ := h; simp [e]
  | lis b => unfold RepV at h; obtain ⟨a, vs, e, _⟩ := h; simp [e]
  | ref b => unfold RepV at h; obtain ⟨a, _, e⟩ := h; simp [e]
  | exn b => unfold RepV at h; simp [h]
section
variable {X : Cx} {cA : Nat → Addr} {W : XK}
theorem op_isM : OpR X (compareOp .Is) (tC2 X.K cA W isD) := by
  refine OpR.imp ((op_isN (X := X)).or (op_is_bl (X := X))) fun x y H Q h => ?_
  obtain ⟨ρ, S, d, e, hS, hd, he, h⟩ := h
  unfold isD at h
  split at h
  · unfold RepV at hd he
    exact .inl ⟨he, by rw [hd]; exact h.same hS rfl⟩
  · rename_i hn
    have q := h.same hS rfl
    unfold RepV at he
    refine .inl ⟨he, ?_⟩
    have : ¬ x = .non := fun z => hn ((rep_non hd).mp z)
    rw [decide_eq_false this]
    exact q
  · unfold RepV at hd he
    exact .inr ⟨_, _, hd, he, h.same hS rfl⟩
  · exact h.elim
theorem op_isNotM : OpR X (compareOp .IsNot) (tC2 X.K cA W isNotD) := by
  refine OpR.imp ((op_notN (X := X)).or (op_isnot_bl (X := X))) fun x y H Q h => ?_
  obtain ⟨ρ, S, d, e, hS, hd, he, h⟩ := h
  unfold isNotD at h
  split at h
  · unfold RepV at hd he
    exact .inl ⟨he, by rw [hd]; exact h.same hS rfl⟩
  · rename_i hn
    have q := h.same hS rfl
    unfold RepV at he
    refine .inl ⟨he, ?_⟩
    have : ¬ x = .non := fun z => hn ((rep_non hd).mp z)
    rw [decide_eq_false this]
    exact q
  · unfold RepV at hd he
    exact .inr ⟨_, _, hd, he, h.same hS rfl⟩
  · exact h.elim
end

/-! ### in -/
def flatO : D → Option V
  | .non => some .non
  | .bl b => some (.bl b)
  | .int i => some (.int i)
  | .str x => some (.str x)
  | _ => none
def keyO : D → Option Key
  | .int i => some (.inl i)
  | .str x => some (.inr x)
  | _ => none
def dLook (kvs : List (Key × D)) (k : Key) : Option D := (kvs.find? fun kv => decide (kv.1 = k)).map (·.2)
def dPut (kvs : List (Key × D)) (k : Key) (v : D) : List (Key × D) :=
  if (kvs.any fun kv => decide (kv.1 = k)) = true then kvs.map (fun kv => if kv.1 = k then (kv.1, v) else kv) else kvs ++ [(k, v)]
def dDrop (kvs : List (Key × D)) (k : Key) : List (Key × D) := kvs.filter fun kv => decide (kv.1 ≠ k)
/-- one sign -/
def signO : D → Option Nat
  | .str x => match x.cps.toList with
    | [c] => some c
    | _ => none
  | _ => none
def inO (S : Store) (x y : D) : Option Bool := match y with
  | .str z => (signO x).map fun c => decide (c ∈ z.cps.toList)
  | _ => match seqOf S y with
    | some ys => match flatO x, mapO flatO ys with
      | some v, some vs => some (inV v vs)
      | _, _ => none
    | none => match y with
      | .ref n => match kvAt S n, keyO x with
        | some kvs, some k => some (dLook kvs k).isSome
        | _, _ => none
      | _ => none
def inD (x y : D) (S : Store) : R Bool := match inO S x y with
  | some b => .ok b S
  | none => .bad
def notInD (x y : D) (S : Store) : R Bool := match inO S x y with
  | some b => .ok (!b) S
  | none => .bad
section
variable {K : PySem.W.Frag} {cA : Nat → Addr} {ρ : List Addr} {H : Hp} {S : Store}
theorem flat_rep {d : D} {v w : V} (h : flatO d = some w) (r : RepV K ρ H d v) : v = w ∧ flatV w = true := by
  cases d with
  | non => unfold RepV at r; subst r; cases h; exact ⟨rfl, rfl⟩
  | bl b => unfold RepV at r; subst r; cases h; exact ⟨rfl, rfl⟩
  | int b => unfold RepV at r; subst r; cases h; exact ⟨rfl, rfl⟩
  | str b => unfold RepV at r; subst r; cases h; exact ⟨rfl, rfl⟩
  | _ => cases h
theorem flats_rep : ∀ {ds : List D} {vs ws : List V}, mapO flatO ds = some ws → RepVs K ρ H ds vs → vs = ws ∧ ws.all flatV = true
  | [], vs, ws, h, r => by unfold RepVs at r; subst r; cases h; exact ⟨rfl, rfl⟩
  | d :: ds, vs, ws, h, r => by
    unfold RepVs at r
    obtain ⟨v, q, rfl, h1, h2⟩ := r
    unfold mapO at h
    split at h
    · rename_i y ys e1 e2
      cases h
      obtain ⟨rfl, f1⟩ := flat_rep e1 h1
      obtain ⟨rfl, f2⟩ := flats_rep e2 h2
      exact ⟨rfl, by rw [List.all_cons, f1, f2]; rfl⟩
    · cases h
theorem key_rep {d : D} {v : V} {k : Key} (h : keyO d = some k) (r : RepV K ρ H d v) : v = kV k := by
  cases d with
  | int b => unfold RepV at r; subst r; cases h; rfl
  | str b => unfold RepV at r; subst r; cases h; rfl
  | _ => cases h
theorem sign_rep {d : D} {v : V} {c : Nat} (h : signO d = some c) (r : RepV K ρ H d v) : v = .str ⟨#[c]⟩ := by
  cases d with
  | str x =>
    unfold RepV at r
    unfold signO at h
    simp only at h
    split at h
    · rename_i c' e
      cases h
      rw [r]
      exact congrArg V.str (Str.ext' (Array.toList_inj.mp e))
    · cases h
  | _ => cases h
theorem look_rep : ∀ {kvs : List (Key × D)} {ps : List (Key × V)} (k : Key), RepP K ρ H kvs ps →
    match dLook kvs k with
    | some d => ∃ v, valV ps k = some v ∧ RepV K ρ H d v
    | none => valV ps k = none
  | [], ps, k, r => by unfold RepP at r; subst r; rfl
  | (j, x) :: kvs, ps, k, r => by
    unfold RepP at r
    obtain ⟨v, q, rfl, h1, h2⟩ := r
    by_cases e : j = k
    · have e1 : dLook ((j, x) :: kvs) k = some x := by simp [dLook, e]
      rw [e1]
      exact ⟨v, valV_pos e, h1⟩
    · have e1 : dLook ((j, x) :: kvs) k = dLook kvs k := by simp [dLook, List.find?_cons, e]
      rw [e1, valV_neg (p := (j, v)) e]
      exact look_rep k h2
theorem lookS_rep {kvs : List (Key × D)} {ps : List (Key × V)} (k : Key) (r : RepP K ρ H kvs ps) : (valV ps k).isSome = (dLook kvs k).isSome := by
  have h := look_rep k r
  split at h
  · rename_i d e; obtain ⟨v, h1, _⟩ := h; rw [h1, e]; rfl
  · rename_i e; rw [h, e]; rfl
theorem inO_rep (hS : Reps K cA ρ H S) {d e : D} {x y : V} {b : Bool} (hd : RepV K ρ H d x) (he : RepV K ρ H e y) (h : inO S d e = some b) :
    (∃ (c : Nat) (z : Str), x = .str ⟨#[c]⟩ ∧ y = .str z ∧ b = decide (c ∈ z.cps.toList)) ∨
    (∃ p xs, y = .ref p ∧ (SqL K H p xs ∨ SqT K H p xs) ∧ flatV x = true ∧ xs.all flatV = true ∧ b = inV x xs) ∨
    ∃ a o, y = .ref a ∧ DGet H a x o ∧ b = o.isSome := by
  unfold inO at h
  split at h
  · rename_i z
    unfold RepV at he
    cases es : signO d with
    | none => rw [es] at h; cases h
    | some c =>
      rw [es] at h
      cases h
      exact .inl ⟨c, z, sign_rep es hd, he, rfl⟩
  · split at h
    · rename_i ys ey
      obtain ⟨p, vs, rfl, hq, hr⟩ := seq_rep hS he ey
      split at h
      · rename_i v ws e1 e2
        cases h
        obtain ⟨rfl, f1⟩ := flat_rep e1 hd
        obtain ⟨rfl, f2⟩ := flats_rep e2 hr
        exact .inr (.inl ⟨p, vs, rfl, hq, f1, f2, rfl⟩)
      · cases h
    · split at h
      · split at h
        · rename_i kvs k e1 e2
          cases h
          obtain ⟨a, ps, rfl, ha, hp, hr⟩ := rkv_rep hS he e1
          have ek := key_rep e2 hd
          subst ek
          exact .inr (.inr ⟨a, _, rfl, (.inl ⟨ps, k, hp, rfl, rfl⟩ : DGet H a (kV k) (valV ps k)), (lookS_rep k hr).symm⟩)
        · cases h
      · cases h
end
section
variable {X : Cx} {cA : Nat → Addr} {W : XK}
theorem op_inDict (hu : X.A.units + 1 < cLine) : OpR X (compareOp .In) (fun x y H Q => ∃ a o, y = .ref a ∧ DGet H a x o ∧ Q (.bl o.isSome) H) := by
  intro pins s σ H x y v u Q I rx ry h
  obtain ⟨a, o, rfl, g, q⟩ := h
  obtain rfl : u = Value.ref a := ry
  exact d_in hu I g rx fun s3 I3 => ⟨.bl o.isSome, H, I3, rfl, q⟩
theorem op_notInDict (hu : X.A.units + 1 < cLine) : OpR X (compareOp .NotIn) (fun x y H Q => ∃ a o, y = .ref a ∧ DGet H a x o ∧ Q (.bl (!o.isSome)) H) := by
  intro pins s σ H x y v u Q I rx ry h
  obtain ⟨a, o, rfl, g, q⟩ := h
  obtain rfl : u = Value.ref a := ry
  exact d_notIn hu I g rx fun s3 I3 => ⟨.bl (!o.isSome), H, I3, rfl, q⟩
theorem op_inM (hu : X.A.units + 1 < cLine) : OpR X (compareOp .In) (tC2 X.K cA W inD) := by
  refine OpR.imp ((op_in_sign (X := X)).or ((op_in_seq (X := X)).or (op_inDict (X := X) hu))) fun x y H Q h => ?_
  obtain ⟨ρ, S, d, e, hS, hd, he, h⟩ := h
  unfold inD at h
  split at h
  · rename_i b hb
    have q := h.same hS rfl
    rcases inO_rep hS hd he hb with ⟨c, z, h1, h2, h3⟩ | ⟨p, xs, h1, h2, h3, h4, h5⟩ | ⟨a, o, h1, h2, h3⟩
    · subst h3; exact .inl ⟨c, z, h1, h2, q⟩
    · subst h5; exact .inr (.inl ⟨p, xs, h1, h2, h3, h4, q⟩)
    · subst h3; exact .inr (.inr ⟨a, o, h1, h2, q⟩)
  · exact h.elim
theorem op_notInM (hu : X.A.units + 1 < cLine) : OpR X (compareOp .NotIn) (tC2 X.K cA W notInD) := by
  refine OpR.imp ((op_notIn_sign (X := X)).or ((op_notIn_seq (X := X)).or (op_notInDict (X := X) hu))) fun x y H Q h => ?_
  obtain ⟨ρ, S, d, e, hS, hd, he, h⟩ := h
  unfold notInD at h
  split at h
  · rename_i b hb
    have q := h.same hS rfl
    rcases inO_rep hS hd he hb with ⟨c, z, h1, h2, h3⟩ | ⟨p, xs, h1, h2, h3, h4, h5⟩ | ⟨a, o, h1, h2, h3⟩
    · subst h3; exact .inl ⟨c, z, h1, h2, q⟩
    · subst h5; exact .inr (.inl ⟨p, xs, h1, h2, h3, h4, q⟩)
    · subst h3; exact .inr (.inr ⟨a, o, h1, h2, q⟩)
  · exact h.elim
end
end ML

set_option Elab.async false
set_option linter.all false
set_option maxRecDepth 100000
set_option autoImplicit false
/-! ML4: expressions. -/
namespace ML
open PySem PySem.Spec L2

/-! ### chaining -/
def Mono {α β : Type} (rep : Rel α β) : Prop := ∀ (H0 : Hp) (ρ : List Addr) (H : Hp) (ρ' : List Addr) (H' : Hp) (a : α) (b : β), Ext ρ H ρ' H' → rep H0 ρ H a b → rep H0 ρ' H' a b
theorem mo_V {K : PySem.W.Frag} : Mono (rV K) := fun _ _ _ _ _ _ _ e h => h.ext e
theorem mo_Vs {K : PySem.W.Frag} : Mono (rVs K) := fun _ _ _ _ _ _ _ e h => h.ext e
theorem mo_Id {α : Type} : Mono (rId (α := α)) := fun _ _ _ _ _ _ _ _ h => h
theorem mo_New {K : PySem.W.Frag} : Mono (rNew K) := fun H0 ρ H ρ' H' a b e h => by
  obtain ⟨p, vs, ev, h0, h1, h2, h3⟩ := h
  refine ⟨p, vs, ev, h0, fun hm => ?_, e.keep p _ h2 h1, h3.ext e⟩
  obtain ⟨r, er, nr⟩ := e.pre
  rw [er] at hm
  rcases List.mem_append.mp hm with z | z
  · exact h1 z
  · have := nr p z
    rw [h2] at this; cases this
section
variable {K : PySem.W.Frag} {cA : Nat → Addr} {W : XK} {α β γ δ ε ζ η θ : Type} {rep : Rel γ δ} {rep1 : Rel α β} {rep2 : Rel ε ζ} {rep3 : Rel η θ}
theorem bind1 (st : Stable rep) {m : Loc → Store → R α} {f : α → Store → R γ} {σ : L2.St} {H : Hp} {Q : δ → Hp → Prop}
    (h : tG K cA W rep (fun l S => (m l S).bind f) σ H Q) :
    tG K cA W rep1 m σ H fun x H1 => ∃ ρ S a, Reps K cA ρ H1 S ∧ rep1 H ρ H1 a x ∧ After K cA W ρ H1 rep (f a S) Q := by
  obtain ⟨ρ, S, l, hS, hl, h⟩ := h
  refine ⟨ρ, S, l, hS, hl, (After.bind (rep := rep1) st h).imp fun x H1 q => ?_⟩
  obtain ⟨ρ1, S1, a, _, h1, h2, h3⟩ := q
  exact ⟨ρ1, S1, a, h1, h2, h3⟩
theorem bind1L (st : Stable rep) {m : Loc → Store → R α} {f : Loc → α → Store → R γ} {σ : L2.St} {H : Hp} {Q : δ → Hp → Prop}
    (h : tG K cA W rep (fun l S => (m l S).bind (f l)) σ H Q) :
    tG K cA W rep1 m σ H fun x H1 => ∃ ρ S l a, Reps K cA ρ H1 S ∧ RepL K ρ H1 l σ ∧ rep1 H ρ H1 a x ∧ After K cA W ρ H1 rep (f l a S) Q := by
  obtain ⟨ρ, S, l, hS, hl, h⟩ := h
  refine ⟨ρ, S, l, hS, hl, (After.bind (rep := rep1) st h).imp fun x H1 q => ?_⟩
  obtain ⟨ρ1, S1, a, e, h1, h2, h3⟩ := q
  exact ⟨ρ1, S1, l, a, h1, hl.ext e, h2, h3⟩
theorem bind2 (st : Stable rep) (mo : Mono rep1) {m : Loc → Store → R α} {n : Loc → Store → R ε} {f : α → ε → Store → R γ} {σ : L2.St} {H : Hp} {Q : δ → Hp → Prop}
    (h : tG K cA W rep (fun l S => (m l S).bind fun a S1 => (n l S1).bind (f a)) σ H Q) :
    tG K cA W rep1 m σ H fun x H1 => tG K cA W rep2 n σ H1 fun y H2 => ∃ ρ S a b, Reps K cA ρ H2 S ∧ rep1 H ρ H2 a x ∧ rep2 H1 ρ H2 b y ∧ After K cA W ρ H2 rep (f a b S) Q := by
  obtain ⟨ρ, S, l, hS, hl, h⟩ := h
  refine ⟨ρ, S, l, hS, hl, (After.bind (rep := rep1) st h).imp fun x H1 q => ?_⟩
  obtain ⟨ρ1, S1, a, e1, h1, h2, h3⟩ := q
  refine ⟨ρ1, S1, l, h1, hl.ext e1, (After.bind (rep := rep2) st h3).imp fun y H2 q => ?_⟩
  obtain ⟨ρ2, S2, b, e2, h4, h5, h6⟩ := q
  exact ⟨ρ2, S2, a, b, h4, mo _ _ _ _ _ _ _ e2 h2, h5, h6⟩
theorem bind3 (st : Stable rep) (mo : Mono rep1) (mo2 : Mono rep2) {m : Loc → Store → R α} {n : Loc → Store → R ε} {o : Loc → Store → R η} {f : α → ε → η → Store → R γ} {σ : L2.St} {H : Hp} {Q : δ → Hp → Prop}
    (h : tG K cA W rep (fun l S => (m l S).bind fun a S1 => (n l S1).bind fun b S2 => (o l S2).bind (f a b)) σ H Q) :
    tG K cA W rep1 m σ H fun x H1 => tG K cA W rep2 n σ H1 fun y H2 => tG K cA W rep3 o σ H2 fun z H3 =>
      ∃ ρ S a b c, Reps K cA ρ H3 S ∧ rep1 H ρ H3 a x ∧ rep2 H1 ρ H3 b y ∧ rep3 H2 ρ H3 c z ∧ After K cA W ρ H3 rep (f a b c S) Q := by
  obtain ⟨ρ, S, l, hS, hl, h⟩ := h
  refine ⟨ρ, S, l, hS, hl, (After.bind (rep := rep1) st h).imp fun x H1 q => ?_⟩
  obtain ⟨ρ1, S1, a, e1, h1, h2, h3⟩ := q
  refine ⟨ρ1, S1, l, h1, hl.ext e1, (After.bind (rep := rep2) st h3).imp fun y H2 q => ?_⟩
  obtain ⟨ρ2, S2, b, e2, h4, h5, h6⟩ := q
  refine ⟨ρ2, S2, l, h4, (hl.ext e1).ext e2, (After.bind (rep := rep3) st h6).imp fun z H3 q => ?_⟩
  obtain ⟨ρ3, S3, c, e3, h7, h8, h9⟩ := q
  exact ⟨ρ3, S3, a, b, c, h7, mo _ _ _ _ _ _ _ e3 (mo _ _ _ _ _ _ _ e2 h2), mo2 _ _ _ _ _ _ _ e3 h5, h8, h9⟩
theorem tG.imp {m : Loc → Store → R γ} {σ : L2.St} {H : Hp} {Q Q' : δ → Hp → Prop} (h : tG K cA W rep m σ H Q) (q : ∀ b H', Q b H' → Q' b H') : tG K cA W rep m σ H Q' :=
  let ⟨ρ, S, l, hS, hl, h⟩ := h; ⟨ρ, S, l, hS, hl, h.imp q⟩
end

/-! ### names, constants -/
def varE (i : Nat) : ME := fun l S => match l[i]? with
  | some (some d) => .ok d S
  | _ => .bad
def conE (d : D) : ME := fun _ S => .ok d S
section
variable {X : Cx} {cA : Nat → Addr} {W : XK} {pos : Pos}
theorem mvar {i : Nat} {x : Str} (hN : X.N[i]? = some x) (hv : Vis X.env.scope x) (hd : (x == ("__debug__" : Str)) = false := by decide) (hcd : (x == ("__classdict__" : Str)) = false := by decide) : PE X (.Name x pos) (tE X.K cA W (varE i)) :=
  (pe_var hN hv hd hcd).imp fun σ H Q h => by
    obtain ⟨ρ, S, l, hS, hl, h⟩ := h
    unfold varE at h
    split at h
    · rename_i d e
      obtain ⟨v, hv, r⟩ := hl.at_ i d e
      exact ⟨v, hv, h.same hS r⟩
    · exact h.elim
theorem mcon {e : Expr} {d : D} {v : V} (h : PE X e (tC v)) (hr : ∀ (ρ : List Addr) (H : Hp), RepV X.K ρ H d v) : PE X e (tE X.K cA W (conE d)) :=
  h.imp fun σ H Q q => by
    obtain ⟨ρ, S, l, hS, hl, q⟩ := q
    exact After.same q hS (hr ρ H)
theorem mint {i : Int} {j : Nat} : PE X (.Constant (.int i) j pos) (tE X.K cA W (conE (.int i))) := mcon pe_int fun ρ H => by unfold RepV; rfl
theorem mstr {x : Str} {j : Nat} : PE X (.Constant (.str x) j pos) (tE X.K cA W (conE (.str x))) := mcon pe_str fun ρ H => by unfold RepV; rfl
theorem mbl {b : Bool} {j : Nat} : PE X (.Constant (.bool b) j pos) (tE X.K cA W (conE (.bl b))) := mcon pe_bl fun ρ H => by unfold RepV; rfl
theorem mnon {j : Nat} : PE X (.Constant .none j pos) (tE X.K cA W (conE .non)) := mcon pe_non fun ρ H => by unfold RepV; rfl
/-- a number that stands at the module -/
theorem mgint {x : Str} {i : Int} (hg : Gl X x) (hm : ∃ t, X.mg x = some (.int i t)) (hd : (x == ("__debug__" : Str)) = false := by decide) : PE X (.Name x pos) (tE X.K cA W (conE (.int i))) := by
  obtain ⟨t, hm⟩ := hm
  exact mcon (pe_glob (v := .int i) hg hm ⟨t, rfl⟩ hd) fun ρ H => by unfold RepV; rfl
/-- a tuple that stands at the module -/
theorem mgtup {x : Str} {ds : List D} {vs : List V} {a : Addr} (hg : Gl X x) (hm : X.mg x = some (.ref a)) (hs : ∀ H, SqT X.K H a vs) (hr : ∀ ρ H, RepVs X.K ρ H ds vs) (hd : (x == ("__debug__" : Str)) = false := by decide) : PE X (.Name x pos) (tE X.K cA W (conE (.tup ds))) :=
  mcon (pe_glob (v := .ref a) hg hm rfl hd) fun ρ H => by unfold RepV; exact ⟨a, vs, rfl, hs H, hr ρ H⟩
end

/-! ### operators -/
def binE (f : D → D → Store → R D) (m n : ME) : ME := fun l S => (m l S).bind fun a S1 => (n l S1).bind (f a)
def unE (f : D → Store → R D) (m : ME) : ME := fun l S => (m l S).bind f
def cmpM (f : D → D → Store → R Bool) (m n : ME) : MB := fun l S => (m l S).bind fun a S1 => (n l S1).bind (f a)
def toV (m : MB) : ME := fun l S => (m l S).bind fun b S1 => .ok (.bl b) S1
def chainM (f g : D → D → Store → R Bool) (m n o : ME) : MB := fun l S => (m l S).bind fun a S1 => (n l S1).bind fun b S2 => (f a b S2).bind fun t S3 => if t = true then (o l S3).bind (g b) else .ok false S3
def andM (m n : MB) : MB := fun l S => (m l S).bind fun b S1 => if b = true then n l S1 else .ok false S1
def orM (m n : MB) : MB := fun l S => (m l S).bind fun b S1 => if b = true then .ok true S1 else n l S1
def notM (m : MB) : MB := fun l S => (m l S).bind fun b S1 => .ok (!b) S1
def isBl : D → Option Bool
  | .bl b => some b
  | _ => none
def ofV (m : ME) : MB := fun l S => (m l S).bind fun d S1 => match isBl d with
  | some b => .ok b S1
  | none => .bad
def andV (m : MB) (n : ME) : ME := fun l S => (m l S).bind fun b S1 => if b = true then n l S1 else .ok (.bl false) S1
def orV (m : MB) (n : ME) : ME := fun l S => (m l S).bind fun b S1 => if b = true then .ok (.bl true) S1 else n l S1
def ifE (c : MB) (m n : ME) : ME := fun l S => (c l S).bind fun b S1 => if b = true then m l S1 else n l S1
section
variable {X : Cx} {cA : Nat → Addr} {W : XK} {pos : Pos} {a b c : Expr} {m n o : ME} {p q : MB} {f g : D → D → Store → R Bool}
theorem mbin {op : Operator} {f : D → D → Store → R D} (ho : OpR X (binaryOp op) (t2 X.K cA W (rV X.K) f)) (ha : PE X a (tE X.K cA W m)) (hb : PE X b (tE X.K cA W n)) : PE X (.BinOp a op b pos) (tE X.K cA W (binE f m n)) :=
  (pe_op ho ha hb).imp fun σ H Q h => bind2 st_V mo_V h
theorem mun {op : UnaryOp} {f : D → Store → R D} (ho : UnR X (unaryOp op) (t1 X.K cA W (rV X.K) f)) (ha : PE X a (tE X.K cA W m)) : PE X (.UnaryOp op a pos) (tE X.K cA W (unE f m)) :=
  (pe_un ho ha).imp fun σ H Q h => bind1 st_V h
theorem After.toV {K : PySem.W.Frag} {ρ : List Addr} {H : Hp} {Q : V → Hp → Prop} {r : R Bool} (h : After K cA W ρ H (rV K) (r.bind fun b S1 => .ok (.bl b) S1) Q) : After K cA W ρ H rId r fun b H' => Q (.bl b) H' := by
  cases r with
  | ok b S => exact fun ρ' H' b' e hs hb => by subst hb; exact h ρ' H' (.bl b) e hs (by unfold rV RepV; rfl)
  | ex x S => exact h
  | bad => exact h
theorem tE_toV {σ : L2.St} {H : Hp} {Q : VK} (h : tE X.K cA W (toV p) σ H Q) : tT X.K cA W p σ H fun b H' => Q (.bl b) H' :=
  let ⟨ρ, S, l, hS, hl, h⟩ := h; ⟨ρ, S, l, hS, hl, h.toV⟩
theorem mcmp {op : CmpOp} (ho : OpR X (compareOp op) (tC2 X.K cA W f)) (ha : PE X a (tE X.K cA W m)) (hb : PE X b (tE X.K cA W n)) (hm : behindInMarks op b = false) : PE X (.Compare a [op] [b] pos) (tE X.K cA W (toV (cmpM f m n))) :=
  (pe_cmpR ho ha hb hm).imp fun σ H Q h => bind2 st_Id mo_V (tE_toV h)
theorem mcmpT {op : CmpOp} (ho : OpR X (compareOp op) (tC2 X.K cA W f)) (ha : PE X a (tE X.K cA W m)) (hb : PE X b (tE X.K cA W n)) (hm : behindInMarks op b = false) : PT X (.Compare a [op] [b] pos) (tT X.K cA W (cmpM f m n)) :=
  (pt_cmpR ho ha hb hm).imp fun σ H Q h => (bind2 st_Id mo_V h).imp fun x H1 h => tG.imp h fun y H2 h => by
    obtain ⟨ρ, S, d, e, hS, hd, he, h⟩ := h
    exact ⟨ρ, S, d, e, hS, hd, he, h.imp fun t H3 q => ⟨t, rfl, q⟩⟩
/-- what a chain asks -/
theorem chain_of {σ : L2.St} {H : Hp} {Q : Bool → Hp → Prop} {Q' : VK} (hQ : ∀ t H', Q t H' → Q' (.bl t) H') (h : tT X.K cA W (chainM f g m n o) σ H Q) :
    tChain (tC2 X.K cA W f) (tC2 X.K cA W g) (tE X.K cA W m) (tE X.K cA W n) (tE X.K cA W o) σ H Q' := by
  obtain ⟨ρ, S, l, hS, hl, h⟩ := h
  refine ⟨ρ, S, l, hS, hl, (After.bind (rep := rV X.K) st_Id h).imp fun x H1 q => ?_⟩
  obtain ⟨ρ1, S1, d, e1, h1, h2, h3⟩ := q
  refine ⟨ρ1, S1, l, h1, hl.ext e1, (After.bind (rep := rV X.K) st_Id h3).imp fun y H2 q => ?_⟩
  obtain ⟨ρ2, S2, e, e2, h4, h5, h6⟩ := q
  refine ⟨ρ2, S2, d, e, h4, h2.ext e2, h5, (After.bind (rep := rId) st_Id h6).imp fun t H3 q => ?_⟩
  obtain ⟨ρ3, S3, t', e3, h7, h8, h9⟩ := q
  subst h8
  refine ⟨t', rfl, ?_⟩
  cases t' with
  | true =>
    simp only [if_true] at h9 ⊢
    refine ⟨ρ3, S3, l, h7, ((hl.ext e1).ext e2).ext e3, (After.bind (rep := rV X.K) st_Id h9).imp fun z H4 q => ?_⟩
    obtain ⟨ρ4, S4, d4, e4, h10, h11, h12⟩ := q
    exact ⟨ρ4, S4, e, d4, h10, (h5.ext e3).ext e4, h11, h12.imp hQ⟩
  | false =>
    exact hQ _ _ (After.same h9 h7 rfl)
theorem mchain {op op' : CmpOp} (ho : OpR X (compareOp op) (tC2 X.K cA W f)) (ho' : OpR X (compareOp op') (tC2 X.K cA W g)) (ha : PE X a (tE X.K cA W m)) (hb : PE X b (tE X.K cA W n)) (hc : PE X c (tE X.K cA W o))
    (hm : lastMarks [op, op'] [b, c] = false := by with_unfolding_all rfl) : PE X (.Compare a [op, op'] [b, c] pos) (tE X.K cA W (toV (chainM f g m n o))) :=
  (pe_chain ho ho' ha hb hc hm).imp fun σ H Q h => chain_of (fun _ _ q => q) (tE_toV h)
theorem mchainT {op op' : CmpOp} (ho : OpR X (compareOp op) (tC2 X.K cA W f)) (ho' : OpR X (compareOp op') (tC2 X.K cA W g)) (ha : PE X a (tE X.K cA W m)) (hb : PE X b (tE X.K cA W n)) (hc : PE X c (tE X.K cA W o))
    (hm : lastMarks [op, op'] [b, c] = false := by with_unfolding_all rfl) : PT X (.Compare a [op, op'] [b, c] pos) (tT X.K cA W (chainM f g m n o)) :=
  (pt_chain ho ho' ha hb hc hm).imp fun σ H Q h => chain_of (fun t _ q => ⟨t, rfl, q⟩) h
/-! tests -/
theorem mand1 (ha : PT X a (tT X.K cA W p)) : PW X (.BoolOp .And [a] pos) (tT X.K cA W p) := pw_and1 ha
theorem mor1 (ha : PT X a (tT X.K cA W p)) : PW X (.BoolOp .Or [a] pos) (tT X.K cA W p) := pw_or1 ha
theorem and_of {R' : Type} {δ : Type} {rep : Rel R' δ} (st : Stable rep) {k : Loc → Bool → Store → R R'} {σ : L2.St} {H : Hp} {Q : δ → Hp → Prop} (h : tG X.K cA W rep (fun l S => (p l S).bind (k l)) σ H Q) :
    tT X.K cA W p σ H fun t H1 => ∃ ρ S l, Reps X.K cA ρ H1 S ∧ RepL X.K ρ H1 l σ ∧ After X.K cA W ρ H1 rep (k l t S) Q := by
  refine (bind1L (rep1 := rId) st h).imp fun x H1 q => ?_
  obtain ⟨ρ, S, l, t, h1, h2, h3, h4⟩ := q
  subst h3
  exact ⟨ρ, S, l, h1, h2, h4⟩
theorem mandT {rest : List Expr} (ha : PT X a (tT X.K cA W p)) (hb : PW X (.BoolOp .And (b :: rest) pos) (tT X.K cA W q)) : PW X (.BoolOp .And (a :: b :: rest) pos) (tT X.K cA W (andM p q)) :=
  (pw_and ha hb).imp fun σ H Q h => (and_of st_Id h).imp fun t H1 q => by
    obtain ⟨ρ, S, l, h1, h2, h3⟩ := q
    cases t with
    | true => exact ⟨ρ, S, l, h1, h2, h3⟩
    | false => exact After.same h3 h1 rfl
theorem morT {rest : List Expr} (ha : PT X a (tT X.K cA W p)) (hb : PW X (.BoolOp .Or (b :: rest) pos) (tT X.K cA W q)) : PW X (.BoolOp .Or (a :: b :: rest) pos) (tT X.K cA W (orM p q)) :=
  (pw_or ha hb).imp fun σ H Q h => (and_of st_Id h).imp fun t H1 q => by
    obtain ⟨ρ, S, l, h1, h2, h3⟩ := q
    cases t with
    | true => exact After.same h3 h1 rfl
    | false => exact ⟨ρ, S, l, h1, h2, h3⟩
theorem mnotT (ha : PT X a (tT X.K cA W p)) : PT X (.UnaryOp .Not a pos) (tT X.K cA W (notM p)) :=
  (pt_not ha).imp fun σ H Q h => (and_of st_Id h).imp fun t H1 q => by
    obtain ⟨ρ, S, l, h1, h2, h3⟩ := q
    exact After.same h3 h1 rfl
/-! values -/
theorem After.ofV {K : PySem.W.Frag} {ρ : List Addr} {H : Hp} {Q : Bool → Hp → Prop} {r : R D} (h : After K cA W ρ H rId (r.bind fun d S1 => match isBl d with | some b => .ok b S1 | none => .bad) Q) :
    After K cA W ρ H (rV K) r fun v H' => ∃ t, v = .bl t ∧ Q t H' := by
  cases r with
  | ok d S =>
    intro ρ' H' v e hs hv
    cases d with
    | bl t => unfold rV RepV at hv; exact ⟨t, hv, h ρ' H' t e hs rfl⟩
    | _ => exact h.elim
  | ex x S => exact h
  | bad => exact h
/-- a value that is a truth, asked -/
theorem ofV_of {σ : L2.St} {H : Hp} {Q : Bool → Hp → Prop} (h : tT X.K cA W (ofV m) σ H Q) : tE X.K cA W m σ H fun v H' => ∃ t, v = .bl t ∧ Q t H' :=
  let ⟨ρ, S, l, hS, hl, h⟩ := h; ⟨ρ, S, l, hS, hl, h.ofV⟩
theorem mval (ha : PE X a (tE X.K cA W m)) (he : ∀ whole, isTrue a X.env whole = (do let v ← whole; standAt a.pos; holding [v] (truthy v)) := by intro _; rfl) : PT X a (tT X.K cA W (ofV m)) :=
  (pt_val ha he).imp fun σ H Q h => ofV_of h
theorem mand {rest : List Expr} (ha : PE X a (tE X.K cA W m)) (hb : PE X (.BoolOp .And (b :: rest) pos) (tE X.K cA W n)) : PE X (.BoolOp .And (a :: b :: rest) pos) (tE X.K cA W (andV (ofV m) n)) :=
  (pe_and ha hb).imp fun σ H Q h => ofV_of ((and_of (p := ofV m) st_V h).imp fun t H1 q => by
    obtain ⟨ρ, S, l, h1, h2, h3⟩ := q
    cases t with
    | true => exact ⟨ρ, S, l, h1, h2, h3⟩
    | false => exact After.same h3 h1 (by unfold rV RepV; rfl))
theorem mor {rest : List Expr} (ha : PE X a (tE X.K cA W m)) (hb : PE X (.BoolOp .Or (b :: rest) pos) (tE X.K cA W n)) : PE X (.BoolOp .Or (a :: b :: rest) pos) (tE X.K cA W (orV (ofV m) n)) :=
  (pe_or ha hb).imp fun σ H Q h => ofV_of ((and_of (p := ofV m) st_V h).imp fun t H1 q => by
    obtain ⟨ρ, S, l, h1, h2, h3⟩ := q
    cases t with
    | true => exact After.same h3 h1 (by unfold rV RepV; rfl)
    | false => exact ⟨ρ, S, l, h1, h2, h3⟩)
theorem mone {op : BoolOp} (h : PE X a (tE X.K cA W m)) : PE X (.BoolOp op [a] pos) (tE X.K cA W m) := pe_one h
theorem mnot (ha : PE X a (tE X.K cA W m)) : PE X (.UnaryOp .Not a pos) (tE X.K cA W (toV (notM (ofV m)))) :=
  (pe_not ha).imp fun σ H Q h => ofV_of ((and_of (p := ofV m) st_Id (tE_toV h)).imp fun t H1 q => by
    obtain ⟨ρ, S, l, h1, h2, h3⟩ := q
    exact After.same (Q := fun b H' => Q (.bl b) H') (rep := rId) (b := !t) h3 h1 rfl)
theorem mif (hc : PT X c (tT X.K cA W p)) (ha : PE X a (tE X.K cA W m)) (hb : PE X b (tE X.K cA W n)) : PE X (.IfExp c a b pos) (tE X.K cA W (ifE p m n)) :=
  (pe_ifExp hc ha hb).imp fun σ H Q h => (and_of (p := p) st_V h).imp fun t H1 q => by
    obtain ⟨ρ, S, l, h1, h2, h3⟩ := q
    cases t with
    | true => exact ⟨ρ, S, l, h1, h2, h3⟩
    | false => exact ⟨ρ, S, l, h1, h2, h3⟩
end
end ML

set_option Elab.async false
set_option linter.all false
set_option maxRecDepth 100000
set_option autoImplicit false
/-! ML5: displays, items, slices, calls of what is built in. -/
namespace ML
open PySem PySem.Spec L2

/-! ### arguments, displays -/
def nilA : MA := fun _ S => .ok [] S
def consA (m : ME) (n : MA) : MA := fun l S => (m l S).bind fun d S1 => (n l S1).bind fun ds S2 => .ok (d :: ds) S2
def tupE (m : MA) : ME := fun l S => (m l S).bind fun ds S1 => if ds.length ≤ sizeLine then .ok (.tup ds) S1 else .bad
def lstN (m : MA) : MA := fun l S => (m l S).bind fun ds S1 => if ds.length ≤ sizeLine then .ok ds S1 else .bad
def allocE (m : MA) : ME := fun l S => (m l S).bind fun ds S1 => newC (.lst ds) S1
section
variable {X : Cx} {cA : Nat → Addr} {W : XK} {pos : Pos} {e : Expr} {es : List Expr} {m : ME} {n : MA}
theorem anil : PA X [] (tAs X.K cA W nilA) := pa_nil.imp fun σ H Q h => by
  obtain ⟨ρ, S, l, hS, hl, h⟩ := h
  exact After.same h hS .nil
theorem acons (ha : PE X e (tE X.K cA W m)) (hr : PA X es (tAs X.K cA W n)) (hs : starEach (e :: es) X.env = (false, eval e X.env) :: starEach es X.env := by rfl) : PA X (e :: es) (tAs X.K cA W (consA m n)) :=
  (pa_cons ha hr hs).imp fun σ H Q h => (bind2 (rep1 := rV X.K) (rep2 := rVs X.K) st_Vs mo_V h).imp fun x H1 h => tG.imp h fun xs H2 h => by
    obtain ⟨ρ, S, a, b, hS, h1, h2, h⟩ := h
    exact After.same h hS (.cons h1 h2)
theorem mtup {k : Nat} (h : PA X es (tAs X.K cA W n)) : PE X (.Tuple es k pos) (tE X.K cA W (tupE n)) :=
  (pe_tup h).imp fun σ H Q h => (bind1 (rep1 := rVs X.K) st_V h).imp fun xs H1 h => by
    obtain ⟨ρ, S, ds, hS, hr, h⟩ := h
    split at h
    · rename_i hz
      exact ⟨by rw [RepVs.length hr]; exact hz, fun p hp => h.tup hS hp hr⟩
    · exact h.elim
/-- a new list, told as new -/
theorem After.fresh {K : PySem.W.Frag} {ρ : List Addr} {H : Hp} {S : Store} {ds : List D} {vs : List V} {p : Addr} {Q : V → Hp → Prop} (h : After K cA W ρ H (rNew K) (.ok ds S) Q) (hS : Reps K cA ρ H S) (hp : H p = none) (hr : RepVs K ρ H ds vs) : Q (.ref p) (upd H p (.lst vs)) :=
  h ρ _ _ (Ext.new hp) (hS.new hp) ⟨p, vs, rfl, hp, hS.free hp, upd_same, hr.ext (Ext.new hp)⟩
theorem mlst (h : PA X es (tAs X.K cA W n)) : PE X (.List es pos) (tNw X.K cA W (lstN n)) :=
  (pe_lst h).imp fun σ H Q h => (bind1 (rep1 := rVs X.K) st_New h).imp fun xs H1 h => by
    obtain ⟨ρ, S, ds, hS, hr, h⟩ := h
    split at h
    · rename_i hz
      exact ⟨by rw [RepVs.length hr]; exact hz, fun p hp => h.fresh hS hp hr⟩
    · exact h.elim
/-- a new list is taken into the store -/
theorem malloc {n : MA} (h : PE X e (tNw X.K cA W n)) : PE X e (tE X.K cA W (allocE n)) := h.imp fun σ H Q h => by
  obtain ⟨ρ, S, l, hS, hl, h⟩ := h
  refine ⟨ρ, S, l, hS, hl, ?_⟩
  unfold allocE at h
  generalize n l S = r at h
  cases r with
  | ok ds S1 =>
    intro ρ' H' v e1 hs hr
    obtain ⟨p, vs, rfl, h0, hn, h1, h2⟩ := hr
    refine h (ρ' ++ [p]) H' (.ref p) (e1.take h0) (hs.push hn ⟨vs, h1, h2⟩) ?_
    show RepV X.K (ρ' ++ [p]) H' (.ref S1.length) (.ref p)
    unfold RepV
    exact ⟨p, by rw [← hs.len, List.getElem?_append_right (Nat.le_refl _)]; simp, rfl⟩
  | ex x S1 => exact h
  | bad => exact h
/-- a tuple is met as a tuple that stands -/
theorem mnew_of {n : MA} {σ : L2.St} {H : Hp} {Q : VK} {β' : Type} {α' : Type} {rep : Rel α' β'} {f : List D → Store → R α'} {Q' : β' → Hp → Prop} (st : Stable rep) (h : tG X.K cA W rep (fun l S => (n l S).bind f) σ H Q') :
    tNw X.K cA W n σ H fun v H1 => ∃ ρ S ds p vs, Reps X.K cA ρ H1 S ∧ v = .ref p ∧ SqL X.K H1 p vs ∧ RepVs X.K ρ H1 ds vs ∧ After X.K cA W ρ H1 rep (f ds S) Q' :=
  (bind1 (rep1 := rNew X.K) st h).imp fun v H1 h => by
    obtain ⟨ρ, S, ds, hS, ⟨p, vs, ev, _, _, h1, h2⟩, h⟩ := h
    exact ⟨ρ, S, ds, p, vs, hS, ev, SqL.of h1, h2, h⟩
end

/-! ### built-in calls by values -/
/-- of one list: a new one, or one that stands -/
def tL1 (K : PySem.W.Frag) (cA : Nat → Addr) (W : XK) {α β : Type} (rep : Rel α β) (f : List D → Store → R α) : List V → Hp → (β → Hp → Prop) → Prop := fun xs H Q =>
  ∃ ρ S ds p vs, Reps K cA ρ H S ∧ xs = [.ref p] ∧ SqL K H p vs ∧ RepVs K ρ H ds vs ∧ After K cA W ρ H rep (f ds S) Q
def newL {α : Type} (f : List D → Store → R α) (n : MA) : Loc → Store → R α := fun l S => (n l S).bind f
def ofL {α : Type} (f : List D → Store → R α) (m : ME) : Loc → Store → R α := fun l S => (m l S).bind fun d S1 => match lstOf S1 d with
  | some ds => f ds S1
  | none => .bad
def callA (f : List D → Store → R D) (n : MA) : ME := fun l S => (n l S).bind f
section
variable {X : Cx} {cA : Nat → Addr} {W : XK} {pos p0 : Pos} {e : Expr} {es : List Expr} {m : ME} {n : MA} {x : Str} {id T : String} {f : List D → Store → R D}
theorem newL_of {α β : Type} {rep : Rel α β} {f : List D → Store → R α} (st : Stable rep) {σ : L2.St} {H : Hp} {Q : β → Hp → Prop} (h : tG X.K cA W rep (newL f n) σ H Q) : tCons (tNw X.K cA W n) tNil σ H fun xs H1 => tL1 X.K cA W rep f xs H1 Q :=
  (bind1 (rep1 := rNew X.K) st h).imp fun v H1 h => by
    obtain ⟨ρ, S, ds, hS, ⟨p, vs, rfl, _, _, h1, h2⟩, h⟩ := h
    exact ⟨ρ, S, ds, p, vs, hS, rfl, SqL.of h1, h2, h⟩
theorem ofL_of {α β : Type} {rep : Rel α β} {f : List D → Store → R α} (st : Stable rep) {σ : L2.St} {H : Hp} {Q : β → Hp → Prop} (h : tG X.K cA W rep (ofL f m) σ H Q) : tCons (tE X.K cA W m) tNil σ H fun xs H1 => tL1 X.K cA W rep f xs H1 Q :=
  (bind1 (rep1 := rV X.K) st h).imp fun v H1 h => by
    obtain ⟨ρ, S, d, hS, hr, h⟩ := h
    split at h
    · rename_i ds e1
      obtain ⟨p, vs, rfl, h1, h2⟩ := lst_rep hS hr e1
      exact ⟨ρ, S, ds, p, vs, hS, rfl, h1, h2, h⟩
    · exact h.elim
/-- f(new list), f built in -/
theorem mcallN {α : Type} {rep : Rel α V} {f : List D → Store → R α} (st : Stable rep) (hc : CallR X (.builtin id) (tL1 X.K cA W rep f)) (hg : Gl X x) (hm : X.mg x = none) (hv : bootBuiltins x = some (.builtin id)) (ha : PE X e (tNw X.K cA W n)) (hn : x ≠ "__name__" := by decide) (hdb : (x == ("__debug__" : Str)) = false := by decide)
    (he : starEach [e] X.env = (false, eval e X.env) :: starEach [] X.env := by rfl) (hpl : (backTo pos (starEach [] X.env)).any (·.1) = false := by rfl) : PE X (.Call (.Name x p0) [e] [] pos) (tG X.K cA W rep (newL f n)) :=
  (pe_callB hc hg hm hv (pa_cons ha pa_nil he) hn hdb he hpl).imp fun σ H Q h => newL_of st h
theorem mcallL {α : Type} {rep : Rel α V} {f : List D → Store → R α} (st : Stable rep) (hc : CallR X (.builtin id) (tL1 X.K cA W rep f)) (hg : Gl X x) (hm : X.mg x = none) (hv : bootBuiltins x = some (.builtin id)) (ha : PE X e (tE X.K cA W m)) (hn : x ≠ "__name__" := by decide) (hdb : (x == ("__debug__" : Str)) = false := by decide)
    (he : starEach [e] X.env = (false, eval e X.env) :: starEach [] X.env := by rfl) (hpl : (backTo pos (starEach [] X.env)).any (·.1) = false := by rfl) : PE X (.Call (.Name x p0) [e] [] pos) (tG X.K cA W rep (ofL f m)) :=
  (pe_callB hc hg hm hv (pa_cons ha pa_nil he) hn hdb he hpl).imp fun σ H Q h => ofL_of st h
/-- T(new list), T a built-in class -/
theorem mtyN {α : Type} {rep : Rel α V} {f : List D → Store → R α} (st : Stable rep) (hc : CallR X (.type T) (tL1 X.K cA W rep f)) (hg : Gl X x) (hm : X.mg x = none) (hv : bootBuiltins x = some (.type T)) (ha : PE X e (tNw X.K cA W n)) (hn : x ≠ "__name__" := by decide) (hdb : (x == ("__debug__" : Str)) = false := by decide)
    (he : starEach [e] X.env = (false, eval e X.env) :: starEach [] X.env := by rfl) (hpl : (backTo pos (starEach [] X.env)).any (·.1) = false := by rfl) : PE X (.Call (.Name x p0) [e] [] pos) (tG X.K cA W rep (newL f n)) :=
  (pe_callTy hc hg hm hv (pa_cons ha pa_nil he) hn hdb he hpl).imp fun σ H Q h => newL_of st h
/-- f(values) -/
theorem mcallV {α : Type} {rep : Rel α V} {f : List D → Store → R α} (st : Stable rep) (hc : CallR X (.builtin id) (tN X.K cA W rep f)) (hg : Gl X x) (hm : X.mg x = none) (hv : bootBuiltins x = some (.builtin id)) (ha : PA X (e :: es) (tAs X.K cA W n)) (hn : x ≠ "__name__" := by decide) (hdb : (x == ("__debug__" : Str)) = false := by decide)
    (he : starEach (e :: es) X.env = (false, eval e X.env) :: starEach es X.env := by rfl) (hpl : (backTo pos (starEach es X.env)).any (·.1) = false := by rfl) : PE X (.Call (.Name x p0) (e :: es) [] pos) (tG X.K cA W rep (newL f n)) :=
  (pe_callB hc hg hm hv ha hn hdb he hpl).imp fun σ H Q h => (bind1 (rep1 := rVs X.K) st h).imp fun vs H1 h => h
theorem mtyV {α : Type} {rep : Rel α V} {f : List D → Store → R α} (st : Stable rep) (hc : CallR X (.type T) (tN X.K cA W rep f)) (hg : Gl X x) (hm : X.mg x = none) (hv : bootBuiltins x = some (.type T)) (ha : PA X (e :: es) (tAs X.K cA W n)) (hn : x ≠ "__name__" := by decide) (hdb : (x == ("__debug__" : Str)) = false := by decide)
    (he : starEach (e :: es) X.env = (false, eval e X.env) :: starEach es X.env := by rfl) (hpl : (backTo pos (starEach es X.env)).any (·.1) = false := by rfl) : PE X (.Call (.Name x p0) (e :: es) [] pos) (tG X.K cA W rep (newL f n)) :=
  (pe_callTy hc hg hm hv ha hn hdb he hpl).imp fun σ H Q h => (bind1 (rep1 := rVs X.K) st h).imp fun vs H1 h => h
end

/-! #### of lists -/
def allL (ds : List D) (S : Store) : R D := match mapO isBl ds with
  | some bs => .ok (.bl (bs.all id)) S
  | none => .bad
def anyL (ds : List D) (S : Store) : R D := match mapO isBl ds with
  | some bs => .ok (.bl (bs.any id)) S
  | none => .bad
def intO : D → Option Int
  | .int i => some i
  | _ => none
def strO : D → Option Str
  | .str x => some x
  | _ => none
def sumL (ds : List D) (S : Store) : R D := match mapO intO ds with
  | some ns => .ok (.int ns.sum) S
  | none => .bad
def lenL (ds : List D) (S : Store) : R D := .ok (.int ds.length) S
def tupL (ds : List D) (S : Store) : R D := .ok (.tup ds) S
def sortI (ns : List Int) : List Int := ns.mergeSort (fun a b => decide (a ≤ b))
def sortL (ds : List D) (S : Store) : R (List D) := match mapO intO ds with
  | some ns => .ok ((sortI ns).map .int) S
  | none => .bad
section
variable {X : Cx} {cA : Nat → Addr} {W : XK} {K : PySem.W.Frag} {ρ : List Addr} {H : Hp}
theorem bls_rep : ∀ {ds : List D} {vs : List V} {bs : List Bool}, mapO isBl ds = some bs → RepVs K ρ H ds vs → vs = bs.map V.bl
  | [], vs, bs, h, r => by unfold RepVs at r; subst r; cases h; rfl
  | d :: ds, vs, bs, h, r => by
    unfold RepVs at r
    obtain ⟨v, q, rfl, h1, h2⟩ := r
    unfold mapO at h
    split at h
    · rename_i y ys e1 e2
      cases h
      cases d with
      | bl b => cases e1; unfold RepV at h1; rw [h1, bls_rep e2 h2]; rfl
      | _ => cases e1
    · cases h
theorem ints_rep : ∀ {ds : List D} {vs : List V} {bs : List Int}, mapO intO ds = some bs → RepVs K ρ H ds vs → vs = bs.map V.int
  | [], vs, bs, h, r => by unfold RepVs at r; subst r; cases h; rfl
  | d :: ds, vs, bs, h, r => by
    unfold RepVs at r
    obtain ⟨v, q, rfl, h1, h2⟩ := r
    unfold mapO at h
    split at h
    · rename_i y ys e1 e2
      cases h
      cases d with
      | int b => cases e1; unfold RepV at h1; rw [h1, ints_rep e2 h2]; rfl
      | _ => cases e1
    · cases h
theorem strs_rep : ∀ {ds : List D} {vs : List V} {bs : List Str}, mapO strO ds = some bs → RepVs K ρ H ds vs → vs = bs.map V.str
  | [], vs, bs, h, r => by unfold RepVs at r; subst r; cases h; rfl
  | d :: ds, vs, bs, h, r => by
    unfold RepVs at r
    obtain ⟨v, q, rfl, h1, h2⟩ := r
    unfold mapO at h
    split at h
    · rename_i y ys e1 e2
      cases h
      cases d with
      | str b => cases e1; unfold RepV at h1; rw [h1, strs_rep e2 h2]; rfl
      | _ => cases e1
    · cases h
theorem c_all (hc : X.calm = true) : CallR X (.builtin "all") (tL1 X.K cA W (rV X.K) allL) := CallR.imp (cr_all hc) fun xs H Q h => by
  obtain ⟨ρ, S, ds, p, vs, hS, rfl, h1, h2, h⟩ := h
  unfold allL at h
  split at h
  · rename_i bs e
    have := bls_rep e h2
    subst this
    exact ⟨p, bs, rfl, h1, h.same hS (by unfold rV RepV; rfl)⟩
  · exact h.elim
theorem c_any (hc : X.calm = true) : CallR X (.builtin "any") (tL1 X.K cA W (rV X.K) anyL) := CallR.imp (cr_any hc) fun xs H Q h => by
  obtain ⟨ρ, S, ds, p, vs, hS, rfl, h1, h2, h⟩ := h
  unfold anyL at h
  split at h
  · rename_i bs e
    have := bls_rep e h2
    subst this
    exact ⟨p, bs, rfl, h1, h.same hS (by unfold rV RepV; rfl)⟩
  · exact h.elim
theorem c_sum (hc : X.calm = true) : CallR X (.builtin "sum") (tL1 X.K cA W (rV X.K) sumL) := CallR.imp (cr_sum hc) fun xs H Q h => by
  obtain ⟨ρ, S, ds, p, vs, hS, rfl, h1, h2, h⟩ := h
  unfold sumL at h
  split at h
  · rename_i bs e
    have := ints_rep e h2
    subst this
    exact ⟨p, bs, rfl, h1, h.same hS (by unfold rV RepV; rfl)⟩
  · exact h.elim
theorem c_len : CallR X (.builtin "len") (tL1 X.K cA W (rV X.K) lenL) := CallR.imp call_len_seq fun xs H Q h => by
  obtain ⟨ρ, S, ds, p, vs, hS, rfl, h1, h2, h⟩ := h
  refine ⟨p, vs, rfl, .inl h1, h.same hS ?_⟩
  unfold rV RepV
  rw [RepVs.length h2]
theorem c_tup : CallR X (.type "tuple") (tL1 X.K cA W (rV X.K) tupL) := CallR.imp call_tuple_of fun xs H Q h => by
  obtain ⟨ρ, S, ds, p, vs, hS, rfl, h1, h2, h⟩ := h
  exact ⟨p, vs, rfl, .inl ⟨h1, fun q hq => After.tup h hS hq h2⟩⟩
theorem sortI_eq {ns ms : List Int} (hp : ms.Perm ns) (hs : ms.Pairwise (· ≤ ·)) : ms = sortI ns := by
  have h1 : (sortI ns).Pairwise (· ≤ ·) := by
    have := List.pairwise_mergeSort (le := fun (a b : Int) => decide (a ≤ b)) (fun a b c h1 h2 => by simp only [decide_eq_true_eq] at *; omega) (fun a b => by simp only [Bool.or_eq_true, decide_eq_true_eq]; omega) ns
    exact this.imp fun h => by simpa using h
  have h2 : (sortI ns).Perm ns := List.mergeSort_perm ns _
  exact (hp.trans h2.symm).eq_of_pairwise (fun a b _ _ h1 h2 => by omega) hs h1
theorem c_sort : CallR X (.builtin "sorted") (tL1 X.K cA W (rNew X.K) sortL) := CallR.imp cr_sortedI fun xs H Q h => by
  obtain ⟨ρ, S, ds, p, vs, hS, rfl, h1, h2, h⟩ := h
  unfold sortL at h
  split at h
  · rename_i bs e
    have := ints_rep e h2
    subst this
    refine ⟨p, bs, rfl, h1, fun ns' q hp hs hq => ?_⟩
    rw [← sortI_eq hp hs] at h
    exact After.fresh h hS hq RepVs.of_ints
  · exact h.elim
end

/-! #### of values -/
def lenV (ds : List D) (S : Store) : R D := match ds with
  | [.str x] => if x.length ≤ sizeLine then .ok (.int x.length) S else .bad
  | [d] => match seqOf S d with
    | some xs => .ok (.int xs.length) S
    | none => match d with
      | .ref n => match dctAt S n with
        | some kvs => .ok (.int kvs.length) S
        | none => .bad
      | _ => .bad
  | _ => .bad
def absV (ds : List D) (S : Store) : R D := match ds with
  | [.int i] => .ok (.int (if i < 0 then -i else i)) S
  | _ => .bad
def maxV (ds : List D) (S : Store) : R D := match ds with
  | [.int i, .int j] => .ok (.int (if j > i then j else i)) S
  | _ => .bad
def minV (ds : List D) (S : Store) : R D := match ds with
  | [.int i, .int j] => .ok (.int (if j < i then j else i)) S
  | _ => .bad
def intV (ds : List D) (S : Store) : R D := match ds with
  | [.int i] => .ok (.int i) S
  | [.bl b] => .ok (.int (if b = true then 1 else 0)) S
  | _ => .bad
def ordV (ds : List D) (S : Store) : R D := match ds with
  | [.str x] => if x.length = 1 then .ok (.int (x.cps.getD 0 0 : Nat)) S else .bad
  | _ => .bad
/-- str of a number -/
def strV (ds : List D) (S : Store) : R D := match ds with
  | [.int i] => if i.natAbs.log2 < 1920 then .ok (.str (toString i)) S else .bad
  | _ => .bad
def listV (ds : List D) (S : Store) : R (List D) := match ds with
  | [d] => match seqOf S d with
    | some xs => .ok xs S
    | none => match d with
      | .ref n => match dctAt S n with
        | some kvs => .ok (kvs.map fun kv => match kv.1 with | .inl i => .int i | .inr x => .str x) S
        | none => .bad
      | _ => .bad
  | _ => .bad
def tupV (ds : List D) (S : Store) : R D := match ds with
  | [.tup xs] => .ok (.tup xs) S
  | [d] => match lstOf S d with
    | some xs => .ok (.tup xs) S
    | none => .bad
  | _ => .bad
section
variable {X : Cx} {cA : Nat → Addr} {W : XK} {K : PySem.W.Frag} {ρ : List Addr} {H : Hp} {S : Store}
theorem one_rep {d : D} {xs : List V} (h : RepVs K ρ H [d] xs) : ∃ v, xs = [v] ∧ RepV K ρ H d v := by
  unfold RepVs at h
  obtain ⟨v, r, rfl, h1, h2⟩ := h
  unfold RepVs at h2
  exact ⟨v, by rw [h2], h1⟩
theorem two_rep {d e : D} {xs : List V} (h : RepVs K ρ H [d, e] xs) : ∃ v w, xs = [v, w] ∧ RepV K ρ H d v ∧ RepV K ρ H e w := by
  unfold RepVs at h
  obtain ⟨v, r, rfl, h1, h2⟩ := h
  obtain ⟨w, rfl, h3⟩ := one_rep h2
  exact ⟨v, w, rfl, h1, h3⟩
theorem seqOf_ref {S : Store} {d : D} : (∀ x, d ≠ .str x) ∨ True := .inr trivial
theorem c_lenV : CallR X (.builtin "len") (tN X.K cA W (rV X.K) lenV) := CallR.imp ((call_len (X := X)).or (call_lenD (X := X))) fun xs H Q h => by
  obtain ⟨ρ, S, ds, hS, hr, h⟩ := h
  unfold lenV at h
  split at h
  · rename_i x
    obtain ⟨v, rfl, h1⟩ := one_rep hr
    split at h
    · rename_i hz
      unfold RepV at h1
      subst h1
      exact .inl ⟨.str x, x.length, rfl, ⟨hz, rfl⟩, h.same hS (by unfold rV RepV; rfl)⟩
    · exact h.elim
  · rename_i d _
    obtain ⟨v, rfl, h1⟩ := one_rep hr
    split at h
    · rename_i ys e
      obtain ⟨a, vs, rfl, h2, h3⟩ := seq_rep hS h1 e
      refine .inl ⟨.ref a, ys.length, rfl, ?_, h.same hS (by unfold rV RepV; rfl)⟩
      rcases h2 with h2 | h2
      · exact .inl ⟨vs, h2, (RepVs.length h3).symm⟩
      · exact .inr ⟨vs, h2, (RepVs.length h3).symm⟩
    · split at h
      · split at h
        · rename_i kvs e
          obtain ⟨a, ps, rfl, _, h2, h3⟩ := rdct_rep hS h1 e
          refine .inr ⟨a, ps, rfl, h2, h.same hS ?_⟩
          unfold rV RepV
          rw [len_repP h3]
        · exact h.elim
      · exact h.elim
  · exact h.elim
where
  len_repP {K : PySem.W.Frag} {ρ : List Addr} {H : Hp} : ∀ {kvs : List (Key × D)} {ps : List (Key × V)}, RepP K ρ H kvs ps → ps.length = kvs.length
    | [], ps, h => by unfold RepP at h; rw [h]; rfl
    | (k, x) :: r, ps, h => by
      unfold RepP at h
      obtain ⟨v, q, rfl, _, h2⟩ := h
      rw [List.length_cons, List.length_cons, len_repP h2]
theorem c_abs : CallR X (.builtin "abs") (tN X.K cA W (rV X.K) absV) := CallR.imp call_abs fun xs H Q h => by
  obtain ⟨ρ, S, ds, hS, hr, h⟩ := h
  unfold absV at h
  split at h
  · obtain ⟨v, rfl, h1⟩ := one_rep hr
    unfold RepV at h1
    subst h1
    exact ⟨_, rfl, h.same hS (by unfold rV RepV; rfl)⟩
  · exact h.elim
theorem c_max (hc : X.calm = true) : CallR X (.builtin "max") (tN X.K cA W (rV X.K) maxV) := CallR.imp (call_max2 hc) fun xs H Q h => by
  obtain ⟨ρ, S, ds, hS, hr, h⟩ := h
  unfold maxV at h
  split at h
  · obtain ⟨v, w, rfl, h1, h2⟩ := two_rep hr
    unfold RepV at h1 h2
    subst h1 h2
    exact ⟨_, _, rfl, h.same hS (by unfold rV RepV; rfl)⟩
  · exact h.elim
theorem c_min (hc : X.calm = true) : CallR X (.builtin "min") (tN X.K cA W (rV X.K) minV) := CallR.imp (call_min2 hc) fun xs H Q h => by
  obtain ⟨ρ, S, ds, hS, hr, h⟩ := h
  unfold minV at h
  split at h
  · obtain ⟨v, w, rfl, h1, h2⟩ := two_rep hr
    unfold RepV at h1 h2
    subst h1 h2
    exact ⟨_, _, rfl, h.same hS (by unfold rV RepV; rfl)⟩
  · exact h.elim
theorem c_int : CallR X (.type "int") (tN X.K cA W (rV X.K) intV) := CallR.imp call_int1 fun xs H Q h => by
  obtain ⟨ρ, S, ds, hS, hr, h⟩ := h
  unfold intV at h
  split at h
  · obtain ⟨v, rfl, h1⟩ := one_rep hr
    unfold RepV at h1
    subst h1
    exact .inl ⟨_, rfl, h.same hS (by unfold rV RepV; rfl)⟩
  · obtain ⟨v, rfl, h1⟩ := one_rep hr
    unfold RepV at h1
    subst h1
    exact .inr ⟨_, rfl, h.same hS (by unfold rV RepV; rfl)⟩
  · exact h.elim
theorem c_ord : CallR X (.builtin "ord") (tN X.K cA W (rV X.K) ordV) := CallR.imp call_ord fun xs H Q h => by
  obtain ⟨ρ, S, ds, hS, hr, h⟩ := h
  unfold ordV at h
  split at h
  · split at h
    · rename_i hz
      obtain ⟨v, rfl, h1⟩ := one_rep hr
      unfold RepV at h1
      subst h1
      exact ⟨_, rfl, hz, h.same hS (by unfold rV RepV; rfl)⟩
    · exact h.elim
  · exact h.elim
theorem c_str : CallR X (.type "str") (tN X.K cA W (rV X.K) strV) := CallR.imp call_str_int fun xs H Q h => by
  obtain ⟨ρ, S, ds, hS, hr, h⟩ := h
  unfold strV at h
  split at h
  · split at h
    · rename_i hz
      obtain ⟨v, rfl, h1⟩ := one_rep hr
      unfold RepV at h1
      subst h1
      exact ⟨_, rfl, hz, h.same hS (by unfold rV RepV; rfl)⟩
    · exact h.elim
  · exact h.elim
theorem keys_rep : ∀ {kvs : List (Key × D)} {ps : List (Key × V)}, RepP K ρ H kvs ps → RepVs K ρ H (kvs.map fun kv => match kv.1 with | .inl i => .int i | .inr x => .str x) (ps.map fun kv => kV kv.1)
  | [], ps, h => by unfold RepP at h; rw [h]; exact .nil
  | (k, x) :: r, ps, h => by
    unfold RepP at h
    obtain ⟨v, q, rfl, _, h2⟩ := h
    rw [List.map_cons, List.map_cons]
    refine .cons ?_ (keys_rep h2)
    cases k <;> (unfold RepV; rfl)
theorem c_list (hc : X.calm = true) : CallR X (.type "list") (tN X.K cA W (rNew X.K) listV) := CallR.imp ((call_list_of (X := X)).or (call_list_dK hc)) fun xs H Q h => by
  obtain ⟨ρ, S, ds, hS, hr, h⟩ := h
  unfold listV at h
  split at h
  · obtain ⟨v, rfl, h1⟩ := one_rep hr
    split at h
    · rename_i ys e
      obtain ⟨a, vs, rfl, h2, h3⟩ := seq_rep hS h1 e
      exact .inl ⟨a, vs, rfl, h2, fun p hp => After.fresh h hS hp h3⟩
    · split at h
      · split at h
        · rename_i kvs e
          obtain ⟨a, ps, rfl, _, h2, h3⟩ := rdct_rep hS h1 e
          exact .inr ⟨a, ps, rfl, h2, fun p hp => After.fresh h hS hp (keys_rep h3)⟩
        · exact h.elim
      · exact h.elim
  · exact h.elim
theorem c_tupV : CallR X (.type "tuple") (tN X.K cA W (rV X.K) tupV) := CallR.imp call_tuple_of fun xs H Q h => by
  obtain ⟨ρ, S, ds, hS, hr, h⟩ := h
  unfold tupV at h
  split at h
  · obtain ⟨v, rfl, h1⟩ := one_rep hr
    have h1' := h1
    unfold RepV at h1
    obtain ⟨a, vs, rfl, h2, h3⟩ := h1
    exact ⟨a, vs, rfl, .inr ⟨h2, h.same hS h1'⟩⟩
  · obtain ⟨v, rfl, h1⟩ := one_rep hr
    split at h
    · rename_i ys e
      obtain ⟨a, vs, rfl, h2, h3⟩ := lst_rep hS h1 e
      exact ⟨a, vs, rfl, .inl ⟨h2, fun p hp => After.tup h hS hp h3⟩⟩
    · exact h.elim
  · exact h.elim
end
end ML

set_option Elab.async false
set_option linter.all false
set_option maxRecDepth 100000
set_option autoImplicit false
/-! ML6: kinds, items, slices, stores, fields, methods of what is built in. -/
namespace ML
open PySem PySem.Spec L2

/-! ### kinds -/
def kindO (S : Store) : D → Option String
  | .non => some "NoneType"
  | .bl _ => some "bool"
  | .int _ => some "int"
  | .str _ => some "str"
  | .tup _ => some "tuple"
  | .lis _ => some "list"
  | .ref n => match S[n]? with
    | some (.lst _) => some "list"
    | some (.dct _) => some "dict"
    | some (.dlk _) => some "dict"
    | _ => none
  | .exn _ => none
def isKind (T t : String) : Bool := t == T || (T == "int" && t == "bool")
def isE (T : String) (m : ME) : MB := fun l S => (m l S).bind fun d S1 => match kindO S1 d with
  | some t => .ok (isKind T t) S1
  | none => .bad
def kinds : List String := ["NoneType", "bool", "int", "str", "tuple", "list", "dict"]
/-- what the model says of two built-in classes -/
def KindOk (T : String) : Prop := ∀ t ∈ kinds, kitB t T = some (isKind T t)
theorem ok_str : KindOk "str" := by unfold KindOk kinds; decide +kernel
theorem ok_int : KindOk "int" := by unfold KindOk kinds; decide +kernel
theorem ok_bool : KindOk "bool" := by unfold KindOk kinds; decide +kernel
theorem ok_tuple : KindOk "tuple" := by unfold KindOk kinds; decide +kernel
theorem ok_list : KindOk "list" := by unfold KindOk kinds; decide +kernel
theorem ok_dict : KindOk "dict" := by unfold KindOk kinds; decide +kernel
section
variable {X : Cx} {cA : Nat → Addr} {W : XK} {K : PySem.W.Frag} {ρ : List Addr} {H : Hp} {S : Store}
theorem kind_rep (hS : Reps K cA ρ H S) {d : D} {v : V} {t : String} (hv : RepV K ρ H d v) (h : kindO S d = some t) : TyX K H v (.type t) ∧ t ∈ kinds := by
  unfold kindO at h
  cases d with
  | non => cases h; unfold RepV at hv; subst hv; exact ⟨.base .non, by decide⟩
  | bl b => cases h; unfold RepV at hv; subst hv; exact ⟨.base (.bl b), by decide⟩
  | int b => cases h; unfold RepV at hv; subst hv; exact ⟨.base (.int b), by decide⟩
  | str b => cases h; unfold RepV at hv; subst hv; exact ⟨.base (.str b), by decide⟩
  | tup xs =>
    cases h
    unfold RepV at hv
    obtain ⟨a, vs, rfl, h1, h2⟩ := hv
    refine ⟨?_, by decide⟩
    rcases h1 with (h1 | ⟨o, h1⟩) | ⟨o, its, n, h1, h3, _⟩
    · exact .base (.tup h1)
    · exact .fTuple h1
    · exact .kTuple h1 h3
  | lis xs =>
    cases h
    unfold RepV at hv
    obtain ⟨a, vs, rfl, h1, h2⟩ := hv
    refine ⟨?_, by decide⟩
    rcases h1 with ⟨o, h1⟩ | ⟨o, its, n, h1, h3, _⟩
    · exact .base (.frz h1)
    · exact .kList h1 h3
  | ref n =>
    simp only at h
    split at h
    · rename_i xs e
      cases h
      obtain ⟨a, rfl, _, vs, h1, _⟩ := ref_rep hS hv e
      exact ⟨.base (.lst h1), by decide⟩
    · rename_i xs e
      cases h
      obtain ⟨a, rfl, _, vs, h1, _⟩ := ref_rep hS hv e
      exact ⟨.base (.dK h1), by decide⟩
    · rename_i xs e
      cases h
      obtain ⟨a, rfl, _, o, vs, h1, _⟩ := ref_rep hS hv e
      exact ⟨.fDict h1, by decide⟩
    · cases h
  | exn a => cases h
variable {pos p0 p1 : Pos} {e : Expr} {m : ME} {x : Str} {T : String}
/-- isinstance(e, T) -/
theorem misi (hT : KindOk T) (ha : PE X e (tE X.K cA W m)) (hg : Gl X "isinstance") (hm : X.mg "isinstance" = none) (hg2 : Gl X x) (hm2 : X.mg x = none) (hv2 : bootBuiltins x = some (.type T)) (hv : bootBuiltins "isinstance" = some (.builtin "isinstance") := by decide +kernel) (hn2 : x ≠ "__name__" := by decide) (hdb2 : (x == ("__debug__" : Str)) = false := by decide)
    (hs2 : starEach [(.Name x p1 : Expr)] X.env = (false, eval (.Name x p1) X.env) :: starEach [] X.env := by rfl) (hs : starEach [e, .Name x p1] X.env = (false, eval e X.env) :: starEach [.Name x p1] X.env := by rfl)
    (hpl : (backTo pos (starEach [(.Name x p1 : Expr)] X.env)).any (·.1) = false := by rfl) : PE X (.Call (.Name "isinstance" p0) [e, .Name x p1] [] pos) (tE X.K cA W (toV (isE T m))) :=
  (pe_callB call_isi hg hm hv (pa_cons ha (pa_cons (pe_bltn (v := .ty T) hg2 hm2 hv2 rfl hn2 hdb2) pa_nil hs2) hs) (by decide) (by decide) hs hpl).imp fun σ H Q h => by
    have h' := bind1 (rep1 := rV X.K) st_Id (tE_toV h)
    refine tG.imp h' fun v H1 h => ?_
    obtain ⟨ρ, S, d, hS, hr, h⟩ := h
    split at h
    · rename_i t et
      obtain ⟨h1, h2⟩ := kind_rep hS hr et
      exact ⟨v, .ty T, .type t, .type T, isKind T t, rfl, .ty T, h1, kit_ty (hT t h2), After.same (Q := fun b H' => Q (.bl b) H') (rep := rId) h hS rfl⟩
    · exact h.elim
end

/-! ### items -/
def ixO (S : Store) (d e : D) : Option D := match e with
  | .int i => match d with
    | .str z => if z.length ≤ sizeLine then (atI z.cps.toList i).map fun c => .str ⟨#[c]⟩ else none
    | .tup xs => atI xs i
    | .lis xs => atI xs i
    | .ref n => match S[n]? with
      | some (.lst xs) => atI xs i
      | some (.dct kvs) => dLook kvs (.inl i)
      | some (.dlk kvs) => dLook kvs (.inl i)
      | _ => none
    | _ => none
  | .str x => match d with
    | .ref n => match kvAt S n with
      | some kvs => dLook kvs (.inr x)
      | none => none
    | _ => none
  | _ => none
def ixD (d e : D) (S : Store) : R D := match ixO S d e with
  | some x => .ok x S
  | none => .bad
section
variable {X : Cx} {cA : Nat → Addr} {W : XK} {K : PySem.W.Frag} {ρ : List Addr} {H : Hp} {S : Store}
theorem atI_rep {xs : List D} {vs : List V} (h : RepVs K ρ H xs vs) {i : Int} {d : D} (e : atI xs i = some d) : ∃ v, atI vs i = some v ∧ RepV K ρ H d v := by
  unfold atI at e ⊢
  rw [RepVs.length h]
  cases q : ixN xs.length i with
  | none => rw [q] at e; cases e
  | some j =>
    rw [q] at e
    exact RepVs.get h j d e
theorem ix_dict (hu : X.A.units + 1 < cLine) : IxR X (fun x y H Q => ∃ a v, x = .ref a ∧ DGet H a y (some v) ∧ Q v H) := by
  intro value slice pins s σ H x y v u Q I rx ry h hs
  obtain ⟨a, z, rfl, g, q⟩ := h
  obtain rfl : v = Value.ref a := rx
  exact PyProof.Rows.tail_any (dict_typeIs I g) PySem.F.slot_dict_getitem.lookup (d_getItem hu I g ry fun w' s3 I3 rw' => ⟨z, H, I3, rw', q⟩) hs
theorem IxR.imp {r r' : R2} (h : IxR X r) (i : ∀ x y H Q, r' x y H Q → r x y H Q) : IxR X r' := fun value slice pins s σ H x y v u Q I rx ry q hs => h value slice pins s σ H x y v u Q I rx ry (i _ _ _ _ q) hs
theorem ix_M (hu : X.A.units + 1 < cLine) : IxR X (t2 X.K cA W (rV X.K) ixD) := IxR.imp ((ix_seq (X := X)).or (ix_dict hu)) fun x y H Q h => by
  obtain ⟨ρ, S, d, e, hS, hd, he, h⟩ := h
  unfold ixD at h
  split at h
  · rename_i z hz
    unfold ixO at hz
    cases e with
    | int i =>
      unfold RepV at he
      subst he
      cases d with
      | str w =>
        simp only at hz
        split at hz
        · rename_i hl
          unfold RepV at hd
          subst hd
          obtain ⟨c, hc, rfl⟩ := Option.map_eq_some_iff.mp hz
          exact .inl (.inr (.inr ⟨w, i, c, rfl, rfl, hl, hc, h.same hS (by unfold rV RepV; rfl)⟩))
        · cases hz
      | tup xs =>
        unfold RepV at hd
        obtain ⟨a, vs, rfl, h1, h2⟩ := hd
        obtain ⟨v, hv, rv⟩ := atI_rep h2 hz
        exact .inl (.inr (.inl ⟨a, vs, i, v, rfl, rfl, h1, hv, h.same hS rv⟩))
      | lis xs =>
        unfold RepV at hd
        obtain ⟨a, vs, rfl, h1, h2⟩ := hd
        obtain ⟨v, hv, rv⟩ := atI_rep h2 hz
        exact .inl (.inl ⟨a, vs, i, v, rfl, rfl, h1.sq, hv, h.same hS rv⟩)
      | ref n =>
        simp only at hz
        have dic : ∀ {kvs : List (Key × D)}, kvAt S n = some kvs → dLook kvs (.inl i) = some z → ∃ a v, x = .ref a ∧ DGet H a (.int i) (some v) ∧ Q v H := fun {kvs} ek el => by
          obtain ⟨a, ps, rfl, _, h1, h2⟩ := rkv_rep hS hd ek
          have q := look_rep (.inl i) h2
          rw [el] at q
          obtain ⟨v, hv, rv⟩ := q
          exact ⟨a, v, rfl, .inl ⟨ps, .inl i, h1, rfl, hv.symm⟩, h.same hS rv⟩
        split at hz
        · rename_i xs e1
          obtain ⟨a, vs, rfl, _, h1, h2⟩ := rlst_rep hS hd (lstAt_of e1)
          obtain ⟨v, hv, rv⟩ := atI_rep h2 hz
          exact .inl (.inl ⟨a, vs, i, v, rfl, rfl, SqL.of h1, hv, h.same hS rv⟩)
        · rename_i kvs e1
          exact .inr (dic (by unfold kvAt; rw [e1]) hz)
        · rename_i kvs e1
          exact .inr (dic (by unfold kvAt; rw [e1]) hz)
        · cases hz
      | _ => cases hz
    | str w =>
      unfold RepV at he
      subst he
      cases d with
      | ref n =>
        simp only at hz
        split at hz
        · rename_i kvs ek
          obtain ⟨a, ps, rfl, _, h1, h2⟩ := rkv_rep hS hd ek
          have q := look_rep (.inr w) h2
          rw [hz] at q
          obtain ⟨v, hv, rv⟩ := q
          exact .inr ⟨a, v, rfl, .inl ⟨ps, .inr w, h1, rfl, hv.symm⟩, h.same hS rv⟩
        · cases hz
      | _ => cases hz
    | _ => cases hz
  · exact h.elim
variable {pos : Pos} {a b : Expr} {m n : ME}
theorem mix (hu : X.A.units + 1 < cLine) (ha : PE X a (tE X.K cA W m)) (hb : PE X b (tE X.K cA W n)) (hs : PlainIx b := by exact fun _ _ => rfl) : PE X (.Subscript a b pos) (tE X.K cA W (binE ixD m n)) :=
  (pe_ix (ix_M hu) ha hb hs).imp fun σ H Q h => bind2 st_V mo_V h
end

/-! ### slices -/
abbrev MO := Loc → Store → R (Option Int)
def noO : MO := fun _ S => .ok none S
def someO (m : ME) : MO := fun l S => (m l S).bind fun d S1 => match intO d with
  | some i => .ok (some i) S1
  | none => .bad
def cutD (xs : List D) (lo hi : Option Int) : List D := (xs.drop (HT.sIx xs.length 0 lo)).take (HT.sIx xs.length xs.length hi - HT.sIx xs.length 0 lo)
def sliceD (d : D) (lo hi : Option Int) (S : Store) : R D := match d with
  | .str z => if z.length ≤ sizeLine then .ok (.str (cutS z lo hi)) S else .bad
  | .tup xs => .ok (.tup (cutD xs lo hi)) S
  | _ => match lstOf S d with
    | some xs => newC (.lst (cutD xs lo hi)) S
    | none => .bad
def sliceE (m : ME) (lo hi : MO) : ME := fun l S => (m l S).bind fun d S1 => (lo l S1).bind fun i S2 => (hi l S2).bind (sliceD d i)
section
variable {X : Cx} {cA : Nat → Addr} {W : XK} {K : PySem.W.Frag} {ρ : List Addr} {H : Hp} {S : Store}
theorem SlR.imp {r r' : V → Option Int → Option Int → Hp → VK → Prop} (h : SlR X r) (i : ∀ x lo hi H Q, r' x lo hi H Q → r x lo hi H Q) : SlR X r' := fun pins s σ H x v vl vu lo hi sl Q I rx hs pl pu q => h pins s σ H x v vl vu lo hi sl Q I rx hs pl pu (i _ _ _ _ _ q)
theorem cut_rep {xs : List D} {vs : List V} (h : RepVs K ρ H xs vs) (lo hi : Option Int) : RepVs K ρ H (cutD xs lo hi) (cutV vs lo hi) := by
  unfold cutD cutV
  rw [RepVs.length h]
  exact (h.drop _).take _
theorem cut_all {xs : List D} {lo hi : Option Int} (h : HT.sIx xs.length 0 lo = 0 ∧ HT.sIx xs.length xs.length hi = xs.length) : cutD xs lo hi = xs := by
  unfold cutD
  rw [h.1, h.2, List.drop_zero, Nat.sub_zero, List.take_length]
theorem sl_M : SlR X (fun x lo hi H Q => ∃ ρ S d, Reps X.K cA ρ H S ∧ RepV X.K ρ H d x ∧ After X.K cA W ρ H (rV X.K) (sliceD d lo hi S) Q) := SlR.imp ((sl_str (X := X)).or ((sl_tupA (X := X)).or (sl_list (X := X)))) fun x lo hi H Q h => by
  obtain ⟨ρ, S, d, hS, hd, h⟩ := h
  unfold sliceD at h
  split at h
  · split at h
    · rename_i hz
      unfold RepV at hd
      exact .inl ⟨_, hd, hz, h.same hS (by unfold rV RepV; rfl)⟩
    · exact h.elim
  · have hd' := hd
    unfold RepV at hd
    obtain ⟨a, vs, rfl, h1, h2⟩ := hd
    refine .inr (.inl ⟨a, vs, rfl, h1, fun hw => ?_, fun _ p hp => h.tup hS hp (cut_rep h2 lo hi)⟩)
    rw [RepVs.length h2] at hw
    rw [cut_all hw] at h
    exact h.same hS hd'
  · split at h
    · rename_i xs e
      obtain ⟨a, vs, rfl, h1, h2⟩ := lst_rep hS hd e
      exact .inr (.inr ⟨a, vs, rfl, h1, fun p hp => h.new hS hp ⟨_, upd_same, (cut_rep h2 lo hi).ext (Ext.new hp)⟩⟩)
    · exact h.elim
theorem PO.imp {e : Option Expr} {t t' : TO} (h : PO X e t) (i : ∀ σ H Q, t' σ H Q → t σ H Q) : PO X e t' := ⟨fun pins s σ H Q I q => h.run pins s σ H Q I (i σ H Q q)⟩
abbrev tO (K : PySem.W.Frag) (cA : Nat → Addr) (W : XK) (m : MO) : TO := tG K cA W rId m
variable {pos p2 : Pos} {e : Expr} {lo hi : Option Expr} {m : ME} {n o : MO}
theorem ono : PO X none (tO X.K cA W noO) := PO.imp po_none fun σ H Q h => by
  obtain ⟨ρ, S, l, hS, hl, h⟩ := h
  exact After.same (rep := rId) h hS rfl
theorem osome (h : PE X e (tE X.K cA W m)) : PO X (some e) (tO X.K cA W (someO m)) := PO.imp (po_some h) fun σ H Q h => (bind1 (rep1 := rV X.K) st_Id h).imp fun v H1 h => by
  obtain ⟨ρ, S, d, hS, hr, h⟩ := h
  split at h
  · rename_i i e
    cases d with
    | int j => cases e; unfold rV RepV at hr; exact ⟨_, hr, After.same (rep := rId) h hS rfl⟩
    | _ => cases e
  · exact h.elim
theorem mslice (he : PE X e (tE X.K cA W m)) (hl : PO X lo (tO X.K cA W n)) (hh : PO X hi (tO X.K cA W o)) : PE X (.Subscript e (.Slice lo hi none p2) pos) (tE X.K cA W (sliceE m n o)) :=
  (pe_slice sl_M he hl hh).imp fun σ H Q h => by
    refine tG.imp (bind3 (rep1 := rV X.K) (rep2 := rId) (rep3 := rId) st_V mo_V mo_Id h) fun x H1 ha => tG.imp ha fun i H2 hb => tG.imp hb fun j H3 hc => ?_
    obtain ⟨ρ, S, d, i', j', hS, h1, h2, h3, hd⟩ := hc
    subst h2 h3
    exact ⟨ρ, S, d, hS, h1, hd⟩
end

/-! ### stores -/
def setO (S : Store) (o i v : D) : Option Store := match o with
  | .ref n => match S[n]? with
    | some (.lst xs) => match i with
      | .int k => (ixN xs.length k).map fun j => S.set n (.lst (xs.set j v))
      | _ => none
    | some (.dct kvs) => match keyO i with
      | some k => if kvs.length < sizeLine then some (S.set n (.dct (dPut kvs k v))) else none
      | none => none
    | _ => none
  | _ => none
section
variable {X : Cx} {cA : Nat → Addr} {W : XK} {K : PySem.W.Frag} {ρ : List Addr} {H : Hp} {S : Store}
theorem PSet.or {t t' : TSet} (h : PSet X t) (h' : PSet X t') : PSet X (fun o i v H Q => t o i v H Q ∨ t' o i v H Q) := fun pins s σ H o i v ov iv u Q I ro ri rv q => by
  rcases q with q | q
  · exact h pins s σ H o i v ov iv u Q I ro ri rv q
  · exact h' pins s σ H o i v ov iv u Q I ro ri rv q
theorem PSet.imp {t t' : TSet} (h : PSet X t) (i : ∀ o i v H Q, t' o i v H Q → t o i v H Q) : PSet X t' := fun pins s σ H o j v ov iv u Q I ro ri rv q => h pins s σ H o j v ov iv u Q I ro ri rv (i _ _ _ _ _ q)
theorem put_rep {k : Key} {d : D} {v : V} (hv : RepV K ρ H d v) {kvs : List (Key × D)} {ps : List (Key × V)} (h : RepP K ρ H kvs ps) : RepP K ρ H (dPut kvs k d) (putK ps k v) := by
  have any_eq : ∀ {kvs : List (Key × D)} {ps : List (Key × V)}, RepP K ρ H kvs ps → (kvs.any fun kv => decide (kv.1 = k)) = (ps.any fun kv => decide (kv.1 = k)) := by
    intro kvs
    induction kvs with
    | nil => intro ps h; unfold RepP at h; rw [h]; rfl
    | cons x r ih =>
      intro ps h
      obtain ⟨j, y⟩ := x
      unfold RepP at h
      obtain ⟨w, q, rfl, _, h2⟩ := h
      rw [List.any_cons, List.any_cons, ih h2]
  have map_rep : ∀ {kvs : List (Key × D)} {ps : List (Key × V)}, RepP K ρ H kvs ps → RepP K ρ H (kvs.map fun kv => if kv.1 = k then (kv.1, d) else kv) (ps.map fun kv => if kv.1 = k then (kv.1, v) else kv) := by
    intro kvs
    induction kvs with
    | nil => intro ps h; unfold RepP at h; rw [h]; unfold RepP; rfl
    | cons x r ih =>
      intro ps h
      obtain ⟨j, y⟩ := x
      unfold RepP at h
      obtain ⟨w, q, rfl, h1, h2⟩ := h
      rw [List.map_cons, List.map_cons]
      by_cases e : j = k
      · simp only [e, if_true]
        unfold RepP
        exact ⟨v, _, rfl, hv, ih h2⟩
      · simp only [e, if_false]
        unfold RepP
        exact ⟨w, _, rfl, h1, ih h2⟩
  have app_rep : ∀ {kvs : List (Key × D)} {ps : List (Key × V)}, RepP K ρ H kvs ps → RepP K ρ H (kvs ++ [(k, d)]) (ps ++ [(k, v)]) := by
    intro kvs
    induction kvs with
    | nil => intro ps h; unfold RepP at h; rw [h]; exact ⟨v, [], rfl, hv, by unfold RepP; rfl⟩
    | cons x r ih =>
      intro ps h
      obtain ⟨j, y⟩ := x
      unfold RepP at h
      obtain ⟨w, q, rfl, h1, h2⟩ := h
      exact ⟨w, _, rfl, h1, ih h2⟩
  unfold dPut putK
  rw [any_eq h]
  split
  · exact map_rep h
  · exact app_rep h
theorem set_M (hu : X.A.units + 1 < cLine) : PSet X (fun o i v H Q => ∃ ρ S d e f, Reps X.K cA ρ H S ∧ RepV X.K ρ H d o ∧ RepV X.K ρ H e i ∧ RepV X.K ρ H f v ∧ ∃ S', setO S d e f = some S' ∧ ∀ H', Ext ρ H ρ H' → Reps X.K cA ρ H' S' → Q H') :=
  PSet.imp (PSet.or (set_list (X := X)) (set_dict hu)) fun o i v H Q h => by
    obtain ⟨ρ, S, d, e, f, hS, hd, he, hf, S', hs, q⟩ := h
    unfold setO at hs
    cases d with
    | ref n =>
      simp only at hs
      split at hs
      · rename_i xs e1
        cases e with
        | int k =>
          simp only at hs
          obtain ⟨j, hj, rfl⟩ := Option.map_eq_some_iff.mp hs
          obtain ⟨a, vs, rfl, ha, h1, h2⟩ := rlst_rep hS hd (lstAt_of e1)
          unfold RepV at he
          subst he
          have E : Ext ρ H ρ (upd H a (.lst (vs.set j v))) := Ext.write ha h1 True.intro
          refine .inl ⟨a, vs, k, j, rfl, rfl, h1, by rw [RepVs.length h2]; exact hj, q _ E (hS.write ha h1 True.intro ⟨_, upd_same, ?_⟩)⟩
          exact (RepVs.set hf j h2).ext E
        | _ => cases hs
      · rename_i kvs e1
        split at hs
        · rename_i k ek
          split at hs
          · rename_i hl
            cases hs
            obtain ⟨a, ps, rfl, ha, h1, h2⟩ := rdct_rep hS hd (dctAt_of e1)
            have := key_rep ek he
            subst this
            have E : Ext ρ H ρ (upd H a (.dK (putK ps k v))) := Ext.write ha h1 True.intro
            refine .inr ⟨a, _, rfl, DPut.k (k := k) (v := v) h1 (by rw [c_lenV.len_repP h2]; exact hl), q _ E (hS.write ha h1 True.intro ⟨_, upd_same, ?_⟩)⟩
            exact (put_rep hf h2).ext E
          · cases hs
        · cases hs
      · cases hs
    | _ => cases hs
end

/-! ### fields -/
def fldE (cs : List Nat) (f : Str) (m : ME) : ME := fun l S => (m l S).bind fun d S1 => match d with
  | .ref n => match insAt S1 n with
    | some (c, fs) => if c ∈ cs then (match fs.lookup f with
      | some x => .ok x S1
      | none => .bad) else .bad
    | none => .bad
  | _ => .bad
section
variable {X : Cx} {cA : Nat → Addr} {W : XK} {K : PySem.W.Frag} {ρ : List Addr} {H : Hp} {S : Store}
theorem fld_rep {f : Str} : ∀ {fs : List (Str × D)} {ps : List (Str × V)} {d : D}, RepP K ρ H fs ps → fs.lookup f = some d → ∃ v, ps.lookup f = some v ∧ RepV K ρ H d v
  | [], ps, d, h, e => by cases e
  | (g, x) :: r, ps, d, h, e => by
    unfold RepP at h
    obtain ⟨w, q, rfl, h1, h2⟩ := h
    cases hg : (f == g) with
    | true => simp only [List.lookup, hg] at e ⊢; cases e; exact ⟨w, rfl, h1⟩
    | false => simp only [List.lookup, hg] at e ⊢; exact fld_rep h2 e
theorem fld_none {f : Str} : ∀ {fs : List (Str × D)} {ps : List (Str × V)}, RepP K ρ H fs ps → fs.lookup f = none → ps.lookup f = none
  | [], ps, h, e => by unfold RepP at h; rw [h]; rfl
  | (g, x) :: r, ps, h, e => by
    unfold RepP at h
    obtain ⟨w, q, rfl, h1, h2⟩ := h
    cases hg : (f == g) with
    | true => simp only [List.lookup, hg] at e; cases e
    | false => simp only [List.lookup, hg] at e ⊢; exact fld_none h2 e
variable {pos : Pos} {e : Expr} {m : ME} {f : Str} {cs : List Nat}
theorem mfld (hC : ∀ c ∈ cs, Cls X.K (cA c) ∧ NoAttr X.K (cA c) f) (he : PE X e (tE X.K cA W m)) (hb : attributeBase e f X.env (eval e X.env) = eval e X.env := by rfl) : PE X (.Attribute e f pos) (tE X.K cA W (fldE cs f m)) :=
  (pe_fld he hb).imp fun σ H Q h => (bind1 (rep1 := rV X.K) st_V h).imp fun v H1 h => by
    obtain ⟨ρ, S, d, hS, hr, h⟩ := h
    split at h
    · split at h
      · rename_i c fs e1
        split at h
        · rename_i hc
          split at h
          · rename_i y e2
            obtain ⟨a, dx, ps, rfl, _, h1, h2⟩ := rins_rep hS hr e1
            obtain ⟨w, hw, rw'⟩ := fld_rep h2 e2
            exact ⟨a, cA c, dx, ps, w, rfl, h1, (hC c hc).1, (hC c hc).2, hw, h.same hS rw'⟩
          · exact h.elim
        · exact h.elim
      · exact h.elim
    · exact h.elim
end

/-! ### methods of lists and texts -/
def tM2 (K : PySem.W.Frag) (cA : Nat → Addr) (W : XK) (f : D → List D → Store → R D) : V → List V → Hp → VK → Prop := fun x xs H Q =>
  ∃ ρ S d ds, Reps K cA ρ H S ∧ RepV K ρ H d x ∧ RepVs K ρ H ds xs ∧ After K cA W ρ H (rV K) (f d ds S) Q
def lmE (f : D → List D → Store → R D) (m : ME) (n : MA) : ME := fun l S => (m l S).bind fun d S1 => if (lstOf S1 d).isSome = true then (n l S1).bind (f d) else .bad
def appendM (d : D) (ds : List D) (S : Store) : R D := match d with
  | .ref n => match lstAt S n with
    | some xs => match ds with
      | [x] => if xs.length < sizeLine then .ok .non (S.set n (.lst (xs ++ [x]))) else .bad
      | _ => .bad
    | none => .bad
  | _ => .bad
def popM (d : D) (ds : List D) (S : Store) : R D := match d with
  | .ref n => match lstAt S n with
    | some xs => match ds with
      | [] => match xs[xs.length - 1]? with
        | some x => .ok x (S.set n (.lst xs.dropLast))
        | none => .bad
      | _ => .bad
    | none => .bad
  | _ => .bad
def popAtM (d : D) (ds : List D) (S : Store) : R D := match d with
  | .ref n => match lstAt S n with
    | some xs => match ds with
      | [.int i] => if 0 ≤ i ∧ i < 2 ^ 62 then (match xs[i.toNat]? with
        | some x => .ok x (S.set n (.lst (xs.eraseIdx i.toNat)))
        | none => .bad) else .bad
      | _ => .bad
    | none => .bad
  | _ => .bad
def extendM (d : D) (ds : List D) (S : Store) : R D := match d with
  | .ref n => match lstAt S n with
    | some xs => match ds with
      | [.ref k] => match lstAt S k with
        | some ys => if xs.length + ys.length ≤ sizeLine then .ok .non (S.set n (.lst (xs ++ ys))) else .bad
        | none => .bad
      | _ => .bad
    | none => .bad
  | _ => .bad
def reverseM (d : D) (ds : List D) (S : Store) : R D := match d with
  | .ref n => match lstAt S n with
    | some xs => match ds with
      | [] => .ok .non (S.set n (.lst xs.reverse))
      | _ => .bad
    | none => .bad
  | _ => .bad
def insertM (d : D) (ds : List D) (S : Store) : R D := match d with
  | .ref n => match lstAt S n with
    | some xs => match ds with
      | [.int i, x] => if 0 ≤ i ∧ i < 2 ^ 62 ∧ xs.length < sizeLine then .ok .non (S.set n (.lst (xs.take i.toNat ++ [x] ++ xs.drop i.toNat))) else .bad
      | _ => .bad
    | none => .bad
  | _ => .bad
section
variable {X : Cx} {cA : Nat → Addr} {W : XK} {K : PySem.W.Frag} {ρ : List Addr} {H : Hp} {S : Store}
theorem MtR.imp {id : String} {r r' : V → List V → Hp → VK → Prop} (h : MtR X id r) (i : ∀ x xs H Q, r' x xs H Q → r x xs H Q) : MtR X id r' := fun pins s σ H x xs v us Q I rx rs q => h pins s σ H x xs v us Q I rx rs (i _ _ _ _ q)
/-- a list is written, and something told -/
theorem After.put {n : Nat} {a : Addr} {vs ws : List V} {xs : List D} {d : D} {v : V} {Q : V → Hp → Prop} (h : After K cA W ρ H (rV K) (.ok d (S.set n (.lst xs))) Q) (hS : Reps K cA ρ H S) (ha : ρ[n]? = some a) (h1 : H a = some (.lst vs)) (hx : RepVs K ρ H xs ws) (hd : RepV K ρ H d v) : Q v (upd H a (.lst ws)) := by
  have E : Ext ρ H ρ (upd H a (.lst ws)) := Ext.write ha h1 True.intro
  exact h ρ _ _ E (hS.write ha h1 True.intro ⟨_, upd_same, hx.ext E⟩) (hd.ext E)
theorem rep_non' : RepV K ρ H .non .non := by unfold RepV; rfl
theorem nil_rep {xs : List V} (h : RepVs K ρ H [] xs) : xs = [] := by unfold RepVs at h; exact h
theorem mt_appendM : MtR X "list.append" (tM2 X.K cA W appendM) := MtR.imp mt_append fun x xs H Q h => by
  obtain ⟨ρ, S, d, ds, hS, hd, hds, h⟩ := h
  unfold appendM at h
  split at h
  · split at h
    · rename_i ys e1
      split at h
      · split at h
        · rename_i hz
          obtain ⟨a, vs, rfl, ha, h1, h2⟩ := rlst_rep hS hd e1
          obtain ⟨w, rfl, h3⟩ := one_rep hds
          exact ⟨a, vs, w, rfl, rfl, h1, by rw [RepVs.length h2]; exact hz, h.put hS ha h1 (h2.append (.cons h3 .nil)) rep_non'⟩
        · exact h.elim
      · exact h.elim
    · exact h.elim
  · exact h.elim
theorem RepVs.dropLast {xs : List D} {vs : List V} (h : RepVs K ρ H xs vs) : RepVs K ρ H xs.dropLast vs.dropLast := by
  rw [List.dropLast_eq_take, List.dropLast_eq_take, RepVs.length h]
  exact h.take _
theorem mt_popM : MtR X "list.pop" (tM2 X.K cA W popM) := MtR.imp mt_pop fun x xs H Q h => by
  obtain ⟨ρ, S, d, ds, hS, hd, hds, h⟩ := h
  unfold popM at h
  split at h
  · split at h
    · rename_i ys e1
      split at h
      · split at h
        · rename_i z hz
          obtain ⟨a, vs, rfl, ha, h1, h2⟩ := rlst_rep hS hd e1
          obtain ⟨w, hw, rw'⟩ := RepVs.get h2 _ _ hz
          exact ⟨a, vs, w, rfl, nil_rep hds, h1, by rw [RepVs.length h2]; exact hw, h.put hS ha h1 h2.dropLast rw'⟩
        · exact h.elim
      · exact h.elim
    · exact h.elim
  · exact h.elim
theorem RepVs.eraseIdx : ∀ {xs : List D} {vs : List V} (i : Nat), RepVs K ρ H xs vs → RepVs K ρ H (xs.eraseIdx i) (vs.eraseIdx i)
  | [], vs, i, h => by unfold RepVs at h; subst h; exact .nil
  | x :: xs, vs, i, h => by
    unfold RepVs at h
    obtain ⟨w, r, rfl, h1, h2⟩ := h
    cases i with
    | zero => exact h2
    | succ i => exact .cons h1 (RepVs.eraseIdx i h2)
theorem mt_popAtM : MtR X "list.pop" (tM2 X.K cA W popAtM) := MtR.imp mt_popAt fun x xs H Q h => by
  obtain ⟨ρ, S, d, ds, hS, hd, hds, h⟩ := h
  unfold popAtM at h
  split at h
  · split at h
    · rename_i ys e1
      split at h
      · split at h
        · rename_i hi
          split at h
          · rename_i i _ z hz
            obtain ⟨a, vs, rfl, ha, h1, h2⟩ := rlst_rep hS hd e1
            obtain ⟨w, hw, rw'⟩ := RepVs.get h2 _ _ hz
            obtain ⟨u, rfl, h3⟩ := one_rep hds
            unfold RepV at h3
            subst h3
            have hlt : i.toNat < vs.length := (List.getElem?_eq_some_iff.mp hw).1
            refine ⟨a, vs, i, i.toNat, w, rfl, rfl, h1, by omega, by omega, ?_, hw, h.put hS ha h1 (h2.eraseIdx _) rw'⟩
            exact PySem.StrLaws.seqIndex_nonneg hi.1 (by omega)
          · exact h.elim
        · exact h.elim
      · exact h.elim
    · exact h.elim
  · exact h.elim
theorem mt_extendM : MtR X "list.extend" (tM2 X.K cA W extendM) := MtR.imp mt_extend fun x xs H Q h => by
  obtain ⟨ρ, S, d, ds, hS, hd, hds, h⟩ := h
  unfold extendM at h
  split at h
  · split at h
    · rename_i ys e1
      split at h
      · split at h
        · rename_i zs e2
          split at h
          · rename_i hz
            obtain ⟨a, vs, rfl, ha, h1, h2⟩ := rlst_rep hS hd e1
            obtain ⟨w, rfl, h3⟩ := one_rep hds
            obtain ⟨b, ws, rfl, hb, h4, h5⟩ := rlst_rep hS h3 e2
            exact ⟨a, b, vs, ws, rfl, rfl, h1, h4, by rw [RepVs.length h2, RepVs.length h5]; exact hz, h.put hS ha h1 (h2.append h5) rep_non'⟩
          · exact h.elim
        · exact h.elim
      · exact h.elim
    · exact h.elim
  · exact h.elim
theorem RepVs.reverse {xs : List D} {vs : List V} (h : RepVs K ρ H xs vs) : RepVs K ρ H xs.reverse vs.reverse := by
  induction xs generalizing vs with
  | nil => unfold RepVs at h; subst h; exact .nil
  | cons x xs ih =>
    unfold RepVs at h
    obtain ⟨w, r, rfl, h1, h2⟩ := h
    rw [List.reverse_cons, List.reverse_cons]
    exact (ih h2).append (.cons h1 .nil)
theorem mt_reverseM : MtR X "list.reverse" (tM2 X.K cA W reverseM) := MtR.imp mt_reverse fun x xs H Q h => by
  obtain ⟨ρ, S, d, ds, hS, hd, hds, h⟩ := h
  unfold reverseM at h
  split at h
  · split at h
    · rename_i ys e1
      split at h
      · obtain ⟨a, vs, rfl, ha, h1, h2⟩ := rlst_rep hS hd e1
        exact ⟨a, vs, rfl, nil_rep hds, h1, h.put hS ha h1 h2.reverse rep_non'⟩
      · exact h.elim
    · exact h.elim
  · exact h.elim
theorem mt_insertM : MtR X "list.insert" (tM2 X.K cA W insertM) := MtR.imp mt_insert fun x xs H Q h => by
  obtain ⟨ρ, S, d, ds, hS, hd, hds, h⟩ := h
  unfold insertM at h
  split at h
  · split at h
    · rename_i ys e1
      split at h
      · split at h
        · rename_i i y hz
          obtain ⟨a, vs, rfl, ha, h1, h2⟩ := rlst_rep hS hd e1
          obtain ⟨u, w, rfl, h3, h4⟩ := two_rep hds
          unfold RepV at h3
          subst h3
          exact ⟨a, vs, i, w, rfl, rfl, h1, by rw [RepVs.length h2]; exact hz.2.2, hz.1, by omega, h.put hS ha h1 (((h2.take _).append (.cons h4 .nil)).append (h2.drop _)) rep_non'⟩
        · exact h.elim
      · exact h.elim
    · exact h.elim
  · exact h.elim
variable {o e : Expr} {es : List Expr} {m : ME} {n : MA} {name : Str} {apos cpos : Pos} {id : String} {f : D → List D → Store → R D}
/-- xs.m(e, ..) of a list -/
theorem mlm (slot : Slot "list" name id) (hty : typeOf (.builtin id) = pure (.type "method_descriptor")) (hm : MtR X id (tM2 X.K cA W f)) (ho : PE X o (tE X.K cA W m)) (ha : PA X (e :: es) (tAs X.K cA W n))
    (hbase : attributeBase o name X.env (eval o X.env) = eval o X.env := by rfl)
    (hfew : ((backTo cpos (starEach (e :: es) X.env)).all (fun x => !x.1) && (backToKw cpos (keywordEach [] X.env)).all (fun x => x.1.isSome)
      && decide ((e :: es).length + ([] : List Keyword).length + (if ([] : List Keyword).isEmpty then 0 else 1) < 30)) = true := by rfl)
    (hline : (apos.endLine == cpos.line) = true := by rfl) (hs : starEach (e :: es) X.env = (false, eval e X.env) :: starEach es X.env := by rfl) (hplain : (backTo cpos (starEach es X.env)).any (·.1) = false := by rfl) :
    PE X (.Call (.Attribute o name apos) (e :: es) [] cpos) (tE X.K cA W (lmE f m n)) :=
  (pe_bm PySem.F.plainAttrs_list slot hty hm ho ha hbase hfew hline hs hplain).imp fun σ H Q h => (bind1L (rep1 := rV X.K) st_V h).imp fun v H1 h => by
    obtain ⟨ρ, S, l, d, hS, hl, hr, h⟩ := h
    split at h
    · rename_i hz
      obtain ⟨xs, hx⟩ := Option.isSome_iff_exists.mp hz
      obtain ⟨a, vs, rfl, h1, _⟩ := lst_rep hS hr hx
      refine ⟨.inl ⟨rfl, vs, h1⟩, ρ, S, l, hS, hl, (After.bind (rep := rVs X.K) st_V h).imp fun us H2 h => ?_⟩
      obtain ⟨ρ2, S2, ds, e2, hS2, hr2, h⟩ := h
      exact ⟨ρ2, S2, d, ds, hS2, hr.ext e2, hr2, h⟩
    · exact h.elim
/-- xs.m() of a list -/
theorem mlm0 (slot : Slot "list" name id) (hty : typeOf (.builtin id) = pure (.type "method_descriptor")) (hm : MtR X id (tM2 X.K cA W f)) (ho : PE X o (tE X.K cA W m))
    (hbase : attributeBase o name X.env (eval o X.env) = eval o X.env := by rfl) (hline : (apos.endLine == cpos.line) = true := by rfl) :
    PE X (.Call (.Attribute o name apos) [] [] cpos) (tE X.K cA W (lmE f m nilA)) :=
  (pe_bm0 PySem.F.plainAttrs_list slot hty hm ho hbase hline).imp fun σ H Q h => (bind1L (rep1 := rV X.K) st_V h).imp fun v H1 h => by
    obtain ⟨ρ, S, l, d, hS, hl, hr, h⟩ := h
    split at h
    · rename_i hz
      obtain ⟨xs, hx⟩ := Option.isSome_iff_exists.mp hz
      obtain ⟨a, vs, rfl, h1, _⟩ := lst_rep hS hr hx
      exact ⟨.inl ⟨rfl, vs, h1⟩, ρ, S, d, [], hS, hr, .nil, h⟩
    · exact h.elim
/-- sep.join(a new list of texts) -/
def joinN (m : ME) (n : MA) : ME := fun l S => (m l S).bind fun d S1 => match strO d with
  | some a => (n l S1).bind fun ds S2 => match mapO strO ds with
    | some ys => if (ys.map (·.length)).sum + ys.length * a.length ≤ 16777216 then .ok (.str (Str.join a ys)) S2 else .bad
    | none => .bad
  | none => .bad
theorem mjoin (ho : PE X o (tE X.K cA W m)) (he : PE X e (tNw X.K cA W n)) (hs : starEach [e] X.env = [(false, eval e X.env)] := by rfl) (hbase : attributeBase o "join" X.env (eval o X.env) = eval o X.env := by rfl) (hline : (apos.endLine == cpos.line) = true := by rfl) :
    PE X (.Call (.Attribute o "join" apos) [e] [] cpos) (tE X.K cA W (joinN m n)) :=
  (pe_join ho he hs hbase hline).imp fun σ H Q h => (bind1L (rep1 := rV X.K) st_V h).imp fun v H1 h => by
    obtain ⟨ρ, S, l, d, hS, hl, hr, h⟩ := h
    split at h
    · rename_i a e1
      cases d with
      | str b =>
        cases e1
        unfold rV RepV at hr
        subst hr
        refine ⟨⟨a, rfl⟩, ρ, S, l, hS, hl, (After.bind (rep := rNew X.K) st_V h).imp fun us H2 h => ?_⟩
        obtain ⟨ρ2, S2, ds, e2, hS2, ⟨p, vs, rfl, _, _, h1, h2⟩, h⟩ := h
        split at h
        · rename_i ys e3
          split at h
          · rename_i hz
            have := strs_rep e3 h2
            subst this
            refine ⟨a, p, ys, rfl, rfl, .inl (SqL.of h1), hz, ?_⟩
            rw [show Txt.join a ys = Str.join a ys from PySem.StrLaws.glued_eq_join a ys]
            exact h.same hS2 (by unfold rV RepV; rfl)
          · exact h.elim
        · exact h.elim
      | _ => cases e1
    · exact h.elim
end
end ML

set_option Elab.async false
set_option linter.all false
set_option maxRecDepth 100000
set_option autoImplicit false
/-! ML7: statements, loops, comprehensions. -/
namespace ML
open PySem PySem.Spec L2

inductive Fl where
  | nx | rt (d : D) | bk | ct
inductive FlV where
  | nx | rt (v : V) | bk | ct
abbrev MS := Loc → Store → R (Fl × Loc)
def rS (K : PySem.W.Frag) : Rel (Fl × Loc) (FlV × L2.St) := fun _ ρ H a b => RepL K ρ H a.2 b.2 ∧ match a.1, b.1 with
  | .nx, .nx => True
  | .rt d, .rt v => RepV K ρ H d v
  | .bk, .bk => True
  | .ct, .ct => True
  | _, _ => False
theorem st_S {K : PySem.W.Frag} : Stable (rS K) := fun _ _ _ _ _ _ _ _ _ h => h
def endQ (E : Ends) : FlV × L2.St → Hp → Prop := fun b H => match b.1 with
  | .nx => E.nx b.2 H
  | .rt v => E.rt v H
  | .bk => E.bk b.2 H
  | .ct => E.ct b.2 H
def tS (K : PySem.W.Frag) (cA : Nat → Addr) (W : XK) (m : MS) : TS := fun E σ H => tG K cA W (rS K) m σ H (endQ E)
def rL (K : PySem.W.Frag) : Rel Loc L2.St := fun _ ρ H a b => RepL K ρ H a b
theorem st_L {K : PySem.W.Frag} : Stable (rL K) := fun _ _ _ _ _ _ _ _ _ h => h
/-- a target's reading -/
abbrev MT := D → Loc → Store → R Loc
def tTg (K : PySem.W.Frag) (cA : Nat → Addr) (W : XK) (m : MT) : TG := fun v σ H Q => ∃ ρ S l d, Reps K cA ρ H S ∧ RepL K ρ H l σ ∧ RepV K ρ H d v ∧ After K cA W ρ H (rL K) (m d l S) Q

/-! ### what is done -/
def nilS : MS := fun l S => .ok (.nx, l) S
def thenS (n : MS) (p : Fl × Loc) (S : Store) : R (Fl × Loc) := match p.1 with
  | .nx => n p.2 S
  | _ => .ok p S
def seqS (m n : MS) : MS := fun l S => (m l S).bind (thenS n)
def exprS (m : ME) : MS := fun l S => (m l S).bind fun _ S1 => .ok (.nx, l) S1
def retS (m : ME) : MS := fun l S => (m l S).bind fun d S1 => .ok (.rt d, l) S1
def retN : MS := fun l S => .ok (.rt .non, l) S
def ifS (c : MB) (m n : MS) : MS := fun l S => (c l S).bind fun b S1 => if b = true then m l S1 else n l S1
def breakS : MS := fun l S => .ok (.bk, l) S
def contS : MS := fun l S => .ok (.ct, l) S
def setS (i : Nat) (m : ME) : MS := fun l S => (m l S).bind fun d S1 => .ok (.nx, l.set i (some d)) S1
def asgS (t : MT) (m : ME) : MS := fun l S => (m l S).bind fun d S1 => (t d l S1).bind fun l1 S2 => .ok (.nx, l1) S2
def againS (n : MS) (p : Fl × Loc) (S : Store) : R (Fl × Loc) := match p.1 with
  | .nx => n p.2 S
  | .ct => n p.2 S
  | .bk => .ok (.nx, p.2) S
  | .rt d => .ok (.rt d, p.2) S
def whileS (c : MB) (b : MS) : Nat → MS
  | 0 => fun _ _ => .bad
  | k + 1 => fun l S => (c l S).bind fun t S1 => if t = true then (b l S1).bind (againS (whileS c b k)) else .ok (.nx, l) S1
/-- what is walked: the items, and what must stay -/
abbrev Sn := List D × (Store → Prop)
open Classical in
noncomputable def forL (chk : Store → Prop) (t : MT) (b : MS) : List D → MS
  | [] => fun l S => if chk S then .ok (.nx, l) S else .bad
  | d :: ds => fun l S => if chk S then (t d l S).bind fun l1 S1 => (b l1 S1).bind (againS (forL chk t b ds)) else .bad
noncomputable def forS (src : Loc → Store → R Sn) (t : MT) (b : MS) : MS := fun l S => (src l S).bind fun p S1 => forL p.2 t b p.1 l S1
def nameT (i : Nat) : MT := fun d l S => .ok (l.set i (some d)) S
def namesL : List Nat → List D → Loc → Option Loc
  | [], [], l => some l
  | i :: is, d :: ds, l => namesL is ds (l.set i (some d))
  | _, _, _ => none
def namesT (is : List Nat) : MT := fun d l S => match d with
  | .tup xs => match namesL is xs l with
    | some l1 => .ok l1 S
    | none => .bad
  | _ => .bad
def subT (m n : ME) : MT := fun d l S => (m l S).bind fun o S1 => (n l S1).bind fun i S2 => match setO S2 o i d with
  | some S3 => .ok l S3
  | none => .bad
def putD (f : Str) (v : D) : List (Str × D) → List (Str × D)
  | [] => [(f, v)]
  | (g, x) :: r => if g = f then (g, v) :: r else (g, x) :: putD f v r
def fldS (cs : List Nat) (f : Str) (m : ME) (v : ME) : MS := fun l S => (v l S).bind fun y S1 => (m l S1).bind fun d S2 => match d with
  | .ref n => match insAt S2 n with
    | some (c, fs) => if c ∈ cs ∧ fs.length < 1000 then .ok (.nx, l) (S2.set n (.ins c (putD f y fs))) else .bad
    | none => .bad
  | _ => .bad

section
variable {X : Cx} {cA : Nat → Addr} {W : XK} {pos : Pos} {K : PySem.W.Frag}
theorem RepL.set {ρ : List Addr} {H : Hp} {l : Loc} {σ : L2.St} {d : D} {v : V} (h : RepL K ρ H l σ) (hv : RepV K ρ H d v) (i : Nat) : RepL K ρ H (l.set i (some d)) (σ.set i (some v)) := by
  refine ⟨by rw [List.length_set, List.length_set]; exact h.len, fun j e hj => ?_⟩
  by_cases q : i = j
  · subst q
    have hi : i < l.length := by
      have := (List.getElem?_eq_some_iff.mp hj).1
      rwa [List.length_set] at this
    rw [List.getElem?_set_self hi] at hj
    cases hj
    exact ⟨v, List.getElem?_set_self (by rw [← h.len]; exact hi), hv⟩
  · rw [List.getElem?_set_ne q] at hj
    obtain ⟨w, hw, r⟩ := h.at_ j e hj
    exact ⟨w, by rw [List.getElem?_set_ne q]; exact hw, r⟩
variable {m n : MS} {e : Expr} {c : Expr} {me : ME} {p : MB} {st : Stmt} {rest : List Stmt}
theorem snil : PSs X [] (tS X.K cA W nilS) := pss_nil.imp fun E σ H h => by
  obtain ⟨ρ, S, l, hS, hl, h⟩ := h
  exact After.same (b := (FlV.nx, σ)) h hS ⟨hl, trivial⟩
theorem then_of {ρ : List Addr} {H : Hp} {r : R (Fl × Loc)} {E : Ends} (h : After K cA W ρ H (rS K) (r.bind (thenS n)) (endQ E)) : After K cA W ρ H (rS K) r (endQ { E with nx := tS K cA W n E }) := by
  refine (After.bind (rep := rS K) st_S h).imp fun b H1 h => ?_
  obtain ⟨ρ1, S1, a, e1, hS, ⟨hl, hf⟩, h⟩ := h
  obtain ⟨f, l⟩ := a
  obtain ⟨g, σ⟩ := b
  cases f with
  | nx => cases g with
    | nx => exact ⟨ρ1, S1, l, hS, hl, h⟩
    | _ => exact hf.elim
  | rt d => cases g with
    | rt v => exact After.same (rep := rS K) (a := (Fl.rt d, l)) (b := (FlV.rt v, σ)) (Q := endQ E) h hS ⟨hl, hf⟩
    | _ => exact hf.elim
  | bk => cases g with
    | bk => exact After.same (rep := rS K) (a := (Fl.bk, l)) (b := (FlV.bk, σ)) (Q := endQ E) h hS ⟨hl, trivial⟩
    | _ => exact hf.elim
  | ct => cases g with
    | ct => exact After.same (rep := rS K) (a := (Fl.ct, l)) (b := (FlV.ct, σ)) (Q := endQ E) h hS ⟨hl, trivial⟩
    | _ => exact hf.elim
theorem scons (h1 : PS X st (tS X.K cA W m)) (h2 : PSs X rest (tS X.K cA W n)) : PSs X (st :: rest) (tS X.K cA W (seqS m n)) :=
  (pss_cons h1 h2).imp fun E σ H h => by
    obtain ⟨ρ, S, l, hS, hl, h⟩ := h
    exact ⟨ρ, S, l, hS, hl, then_of h⟩
theorem sone (h1 : PS X st (tS X.K cA W m)) : PSs X [st] (tS X.K cA W m) := pss_one h1
theorem spass : PS X (.Pass pos) (tS X.K cA W nilS) := ps_pass.imp fun E σ H h => by
  obtain ⟨ρ, S, l, hS, hl, h⟩ := h
  exact After.same (b := (FlV.nx, σ)) h hS ⟨hl, trivial⟩
theorem sdoc {x : Str} {j : Nat} {pos' : Pos} : PS X (.Expr (.Constant (.str x) j pos) pos') (tS X.K cA W nilS) := ps_doc.imp fun E σ H h => by
  obtain ⟨ρ, S, l, hS, hl, h⟩ := h
  exact After.same (b := (FlV.nx, σ)) h hS ⟨hl, trivial⟩
theorem sbreak : PS X (.Break pos) (tS X.K cA W breakS) := ps_break.imp fun E σ H h => by
  obtain ⟨ρ, S, l, hS, hl, h⟩ := h
  exact After.same (b := (FlV.bk, σ)) h hS ⟨hl, trivial⟩
theorem scont : PS X (.Continue pos) (tS X.K cA W contS) := ps_continue.imp fun E σ H h => by
  obtain ⟨ρ, S, l, hS, hl, h⟩ := h
  exact After.same (b := (FlV.ct, σ)) h hS ⟨hl, trivial⟩
theorem after_L {α β : Type} {rep : Rel α β} {f : Loc → α → Store → R (Fl × Loc)} {mm : Loc → Store → R α} {σ : L2.St} {H : Hp} {E : Ends} (h : tS K cA W (fun l S => (mm l S).bind (f l)) E σ H) :
    tG K cA W rep mm σ H fun x H1 => ∃ ρ S l a, Reps K cA ρ H1 S ∧ RepL K ρ H1 l σ ∧ rep H ρ H1 a x ∧ After K cA W ρ H1 (rS K) (f l a S) (endQ E) := bind1L st_S h
theorem sexpr (he : PE X e (tE X.K cA W me)) (hs : swapsWith e none pos.line X.env = pure false := by rfl) : PS X (.Expr e pos) (tS X.K cA W (exprS me)) :=
  (ps_expr he hs).imp fun E σ H h => (after_L (rep := rV X.K) h).imp fun v H1 h => by
    obtain ⟨ρ, S, l, d, hS, hl, _, h⟩ := h
    exact After.same (b := (FlV.nx, σ)) h hS ⟨hl, trivial⟩
theorem sret (he : PE X e (tE X.K cA W me)) : PS X (.Return (some e) pos) (tS X.K cA W (retS me)) :=
  (ps_ret he).imp fun E σ H h => (after_L (rep := rV X.K) h).imp fun v H1 h => by
    obtain ⟨ρ, S, l, d, hS, hl, hr, h⟩ := h
    exact After.same (b := (FlV.rt v, σ)) h hS ⟨hl, hr⟩
theorem sretN : PS X (.Return none pos) (tS X.K cA W retN) := ps_retN.imp fun E σ H h => by
  obtain ⟨ρ, S, l, hS, hl, h⟩ := h
  exact After.same (b := (FlV.rt .non, σ)) h hS ⟨hl, rep_non'⟩
theorem sif {a b : List Stmt} (hc : PT X c (tT X.K cA W p)) (ha : PSs X a (tS X.K cA W m)) (hb : PSs X b (tS X.K cA W n)) : PS X (.If c a b pos) (tS X.K cA W (ifS p m n)) :=
  (ps_if hc ha hb).imp fun E σ H h => (after_L (rep := rId) h).imp fun t H1 h => by
    obtain ⟨ρ, S, l, d, hS, hl, hr, h⟩ := h
    subst hr
    cases d with
    | true => exact ⟨ρ, S, l, hS, hl, h⟩
    | false => exact ⟨ρ, S, l, hS, hl, h⟩
theorem sset {i : Nat} {x : Str} {pos' : Pos} (hN : X.N.Nodup) (hi : X.N[i]? = some x) (hx : L2.Loc X.env.scope x) (he : PE X e (tE X.K cA W me)) (hs : swapsWith e (some (.Name x pos')) pos.line X.env = pure false := by rfl) (hf : X.fn x = true ∨ X.env.scope.names.lookup x = some .local := by first | exact .inl rfl | exact .inr rfl | assumption) :
    PS X (.Assign [.Name x pos'] e pos) (tS X.K cA W (setS i me)) :=
  (ps_set hN hi hx he hs hf).imp fun E σ H h => (after_L (rep := rV X.K) h).imp fun v H1 h => by
    obtain ⟨ρ, S, l, d, hS, hl, hr, h⟩ := h
    exact After.same (b := (FlV.nx, σ.set i (some v))) h hS ⟨hl.set hr i, trivial⟩
theorem sasg {tg : Expr} {t : MT} (he : PE X e (tE X.K cA W me)) (hg : PG X tg (tTg X.K cA W t)) (hs : swapsWithSole [tg] e pos.line X.env = pure false := by rfl) (hw : swappedStores [tg] e X.env = pure none := by rfl)
    (h1 : (assignEach [tg] X.env).map (·.2) = [assign tg X.env] := by rfl) : PS X (.Assign [tg] e pos) (tS X.K cA W (asgS t me)) :=
  (ps_asg he hg hs hw h1).imp fun E σ H h => (after_L (rep := rV X.K) h).imp fun v H1 h => by
    obtain ⟨ρ, S, l, d, hS, hl, hr, h⟩ := h
    refine ⟨ρ, S, l, d, hS, hl, hr, (After.bind (rep := rL X.K) st_S h).imp fun σ1 H2 h => ?_⟩
    obtain ⟨ρ1, S1, l1, e1, hS1, hl1, h⟩ := h
    exact After.same (b := (FlV.nx, σ1)) h hS1 ⟨hl1, trivial⟩
/-! targets -/
theorem gname {i : Nat} {x : Str} (hN : X.N.Nodup) (hi : X.N[i]? = some x) (hx : L2.Loc X.env.scope x) (hf : X.fn x = true ∨ X.env.scope.names.lookup x = some .local := by first | exact .inl rfl | exact .inr rfl | assumption) : PG X (.Name x pos) (tTg X.K cA W (nameT i)) := by
  refine ⟨fun pins s σ H v u Q I r h => (pg_name hN hi hx hf).run pins s σ H v u Q I r ?_⟩
  obtain ⟨ρ, S, l, d, hS, hl, hr, h⟩ := h
  exact After.same (rep := rL X.K) h hS (hl.set hr i)
/-- the names' own reading -/
def gNms : List Nat → TGs
  | [] => gNil
  | i :: is => gCons (gName i) (gNms is)
theorem names_of {ρ : List Addr} {H : Hp} : ∀ {is : List Nat} {ds : List D} {vs : List V} {l l1 : Loc} {σ : L2.St} {Q : L2.St → Hp → Prop}, namesL is ds l = some l1 → RepVs K ρ H ds vs → RepL K ρ H l σ → (∀ σ1, RepL K ρ H l1 σ1 → Q σ1 H) → gNms is vs σ H Q
  | [], [], vs, l, l1, σ, Q, h, r, hl, q => by
    unfold RepVs at r
    cases h
    exact ⟨r, q σ hl⟩
  | i :: is, d :: ds, vs, l, l1, σ, Q, h, r, hl, q => by
    unfold RepVs at r
    obtain ⟨v, w, rfl, h1, h2⟩ := r
    exact ⟨v, w, rfl, names_of (is := is) h h2 (hl.set h1 i) q⟩
  | [], _ :: _, _, _, _, _, _, h, _, _, _ => nomatch h
  | _ :: _, [], _, _, _, _, _, h, _, _, _ => nomatch h
theorem namesL_len : ∀ {is : List Nat} {ds : List D} {l l1 : Loc}, namesL is ds l = some l1 → ds.length = is.length
  | [], [], _, _, _ => rfl
  | i :: is, d :: ds, l, l1, h => by rw [List.length_cons, List.length_cons, namesL_len (is := is) h]
  | [], _ :: _, _, _, h => nomatch h
  | _ :: _, [], _, _, h => nomatch h
theorem gnames {es : List Expr} {k : Nat} {is : List Nat} (hc : X.calm = true) (h : PGs X es (gNms is)) (hn : (assignEach es X.env).length = is.length := by rfl) (hst : (assignEach es X.env).findIdx? (·.1) = none := by rfl) : PG X (.Tuple es k pos) (tTg X.K cA W (namesT is)) := by
  refine ⟨fun pins s σ H v u Q I r hw => (pg_tup hc h hn hst).run pins s σ H v u Q I r ?_⟩
  obtain ⟨ρ, S, l, d, hS, hl, hr, hq⟩ := hw
  unfold namesT at hq
  cases d with
  | tup xs =>
    simp only at hq
    split at hq
    · rename_i l1 e1
      unfold RepV at hr
      obtain ⟨a, vs, rfl, h1, h2⟩ := hr
      refine ⟨a, vs, rfl, h1, by rw [RepVs.length h2]; exact namesL_len e1, names_of e1 h2 hl fun σ1 hl1 => After.same (rep := rL X.K) hq hS hl1⟩
    · exact hq.elim
  | _ => exact hq.elim
theorem gsub {o i : Expr} {mo mi : ME} (hu : X.A.units + 1 < cLine) (ho : PE X o (tE X.K cA W mo)) (hi : PE X i (tE X.K cA W mi))
    (ha : ∀ v, assign (.Subscript o i pos) X.env v = (do
      let ov ← holding [v] (eval o X.env)
      let iv ← holding [v, ov] (eval i X.env)
      standAt pos
      holding [v, ov, iv] (setItem ov iv v)
      release [v, ov, iv] []) := by intro _; rfl) : PG X (.Subscript o i pos) (tTg X.K cA W (subT mo mi)) := by
  refine ⟨fun pins s σ H v u Q I r hw => (pg_sub ho hi (set_M (cA := cA) hu) ha).run pins s σ H v u Q I r ?_⟩
  obtain ⟨ρ, S, l, d, hS, hl, hr, hq⟩ := hw
  refine ⟨ρ, S, l, hS, hl, (After.bind (rep := rV X.K) st_L hq).imp fun ov H1 h => ?_⟩
  obtain ⟨ρ1, S1, od, e1, hS1, r1, h⟩ := h
  refine ⟨ρ1, S1, l, hS1, hl.ext e1, (After.bind (rep := rV X.K) st_L h).imp fun iv H2 h => ?_⟩
  obtain ⟨ρ2, S2, id, e2, hS2, r2, h⟩ := h
  split at h
  · rename_i S3 e3
    refine ⟨ρ2, S2, od, id, d, hS2, r1.ext e2, r2, (hr.ext e1).ext e2, S3, e3, fun H' e' hS' => ?_⟩
    exact h ρ2 H' σ e' hS' (((hl.ext e1).ext e2).ext e')
  · exact h.elim
theorem putD_rep {ρ : List Addr} {H : Hp} {f : Str} {d : D} {v : V} (hv : RepV K ρ H d v) : ∀ {fs : List (Str × D)} {ps : List (Str × V)}, RepP K ρ H fs ps → RepP K ρ H (putD f d fs) (putF f v ps)
  | [], ps, h => by
    unfold RepP at h
    subst h
    exact ⟨v, [], rfl, hv, by unfold RepP; rfl⟩
  | (g, x) :: r, ps, h => by
    unfold RepP at h
    obtain ⟨w, q, rfl, h1, h2⟩ := h
    unfold putD putF
    by_cases e : g = f
    · rw [if_pos e, if_pos e]; exact ⟨v, q, rfl, hv, h2⟩
    · rw [if_neg e, if_neg e]; exact ⟨w, _, rfl, h1, putD_rep hv h2⟩
theorem len_fs {ρ : List Addr} {H : Hp} : ∀ {fs : List (Str × D)} {ps : List (Str × V)}, RepP K ρ H fs ps → ps.length = fs.length
  | [], ps, h => by unfold RepP at h; rw [h]; rfl
  | (k, x) :: r, ps, h => by
    unfold RepP at h
    obtain ⟨v, q, rfl, _, h2⟩ := h
    rw [List.length_cons, List.length_cons, len_fs h2]
theorem sfld {o value : Expr} {f : Str} {pos' : Pos} {cs : List Nat} {mo mv : ME} (hC : ∀ c ∈ cs, Cls X.K (cA c) ∧ NoAttr X.K (cA c) f) (ho : PE X o (tE X.K cA W mo)) (hv : PE X value (tE X.K cA W mv)) (hs : swapsWith value (some (.Attribute o f pos')) pos.line X.env = pure false := by rfl) :
    PS X (.Assign [.Attribute o f pos'] value pos) (tS X.K cA W (fldS cs f mo mv)) :=
  (ps_fld ho hv hs).imp fun E σ H h => (after_L (rep := rV X.K) h).imp fun y H1 h => by
    obtain ⟨ρ, S, l, d, hS, hl, hr, h⟩ := h
    refine ⟨ρ, S, l, hS, hl, (After.bind (rep := rV X.K) st_S h).imp fun x H2 h => ?_⟩
    obtain ⟨ρ1, S1, o, e1, hS1, r1, h⟩ := h
    split at h
    · split at h
      · rename_i n c fs ei
        split at h
        · rename_i hc
          obtain ⟨a, dx, ps, rfl, ha, h1, h2⟩ := rins_rep hS1 r1 ei
          have EE : Ext ρ1 H2 ρ1 (upd H2 a (.ins (cA c) dx (putF f y ps))) := Ext.write ha h1 True.intro
          refine ⟨a, cA c, dx, ps, rfl, h1, (hC c hc.1).1, (hC c hc.1).2, by rw [len_fs h2]; exact hc.2, ?_⟩
          exact h ρ1 _ (FlV.nx, σ) EE (hS1.write ha h1 True.intro ⟨dx, _, upd_same, (putD_rep (hr.ext e1) h2).ext EE⟩) ⟨((hl.ext e1).ext EE), trivial⟩
        · exact h.elim
      · exact h.elim
    · exact h.elim

/-! ### while -/
theorem again_of {ρ : List Addr} {H : Hp} {r : R (Fl × Loc)} {E : Ends} {N : L2.St → Hp → Prop} (hN : ∀ σ' H', tS K cA W n E σ' H' → N σ' H') (h : After K cA W ρ H (rS K) (r.bind (againS n)) (endQ E)) : After K cA W ρ H (rS K) r (endQ { E with nx := N, ct := N, bk := E.nx }) := by
  refine (After.bind (rep := rS K) st_S h).imp fun b H1 h => ?_
  obtain ⟨ρ1, S1, a, e1, hS, ⟨hl, hf⟩, h⟩ := h
  obtain ⟨f, l⟩ := a
  obtain ⟨g, σ⟩ := b
  cases f with
  | nx => cases g with
    | nx => exact hN σ H1 ⟨ρ1, S1, l, hS, hl, h⟩
    | _ => exact hf.elim
  | rt d => cases g with
    | rt v => exact After.same (rep := rS K) (a := (Fl.rt d, l)) (b := (FlV.rt v, σ)) (Q := endQ E) h hS ⟨hl, hf⟩
    | _ => exact hf.elim
  | bk => cases g with
    | bk => exact After.same (rep := rS K) (a := (Fl.nx, l)) (b := (FlV.nx, σ)) (Q := endQ E) h hS ⟨hl, trivial⟩
    | _ => exact hf.elim
  | ct => cases g with
    | ct => exact hN σ H1 ⟨ρ1, S1, l, hS, hl, h⟩
    | _ => exact hf.elim
theorem swhile {body : List Stmt} {b : MS} (k : Nat) (hp : PassesOwn (model X.prog X.w) X.A X.env X.xe) (hc : PT X c (tT X.K cA W p)) (hb : PSs X body (tS X.K cA W b)) : PS X (.While c body [] pos) (tS X.K cA W (whileS p b k)) :=
  (ps_while hp hc hb).imp fun E σ H h => by
    refine ⟨fun m σ H => tS X.K cA W (whileS p b m) E σ H, ⟨k, h⟩, fun m σ H h => ?_⟩
    cases m with
    | zero => obtain ⟨ρ, S, l, hS, hl, h⟩ := h; exact h.elim
    | succ m =>
      refine (after_L (rep := rId) h).imp fun t H1 h => ?_
      obtain ⟨ρ, S, l, d, hS, hl, hr, h⟩ := h
      subst hr
      cases d with
      | true => exact ⟨fun σ' H' => tS X.K cA W (whileS p b m) E σ' H', fun σ' H' h => ⟨m, Nat.lt_succ_self m, h⟩, ρ, S, l, hS, hl, again_of (fun _ _ h => h) h⟩
      | false => exact After.same (b := (FlV.nx, σ)) h hS ⟨hl, trivial⟩
end

/-! ### what is walked -/
structure SrcOk (K : PySem.W.Frag) (cA : Nat → Addr) (J : It) (ρ1 : List Addr) (H1 : Hp) (p : Sn) : Prop where
  go : ∀ (ρ : List Addr) (H : Hp) (S : Store), Ext ρ1 H1 ρ H → Reps K cA ρ H S → p.2 S → ∀ (i : Nat) (d : D), p.1[i]? = some d → J.go i H ∧ ∀ x H', J.yld i H x H' → Ext ρ H ρ H' ∧ (∀ a ∈ ρ, H' a = H a) ∧ RepV K ρ H' d x
  stop : ∀ (ρ : List Addr) (H : Hp) (S : Store), Ext ρ1 H1 ρ H → Reps K cA ρ H S → p.2 S → J.stop p.1.length H
def rSrc (K : PySem.W.Frag) (cA : Nat → Addr) : Rel Sn It := fun _ ρ H p J => SrcOk K cA J ρ H p
theorem st_Src {K : PySem.W.Frag} {cA : Nat → Addr} : Stable (rSrc K cA) := fun _ _ _ _ _ _ _ _ _ h => h
def tSrc (K : PySem.W.Frag) (cA : Nat → Addr) (W : XK) (m : Loc → Store → R Sn) : TI := tG K cA W (rSrc K cA) m
section
variable {X : Cx} {cA : Nat → Addr} {W : XK} {pos : Pos} {tg iter : Expr} {b : MS} {t : MT} {src : Loc → Store → R Sn}
theorem sfor {body : List Stmt} (hp : PassesOwn (model X.prog X.w) X.A X.env X.xe) (hc : X.calm = true) (hi : PI X tg iter (tSrc X.K cA W src)) (hg : PG X tg (tTg X.K cA W t)) (hb : PSs X body (tS X.K cA W b))
    (hs : ∀ x, foldedSetIterable iter X.env x = pure x := by intro _; rfl) : PS X (.For tg iter body [] pos) (tS X.K cA W (forS src t b)) :=
  (ps_for hp hc hi hg hb hs).imp fun E σ H h => (after_L (rep := rSrc X.K cA) h).imp fun J H1 h => by
    obtain ⟨ρ1, S1, l1, q, hS1, hl1, hJ, h⟩ := h
    obtain ⟨ds, chk⟩ := q
    refine ⟨fun i m σ H => ∃ ρ S l, Ext ρ1 H1 ρ H ∧ Reps X.K cA ρ H S ∧ RepL X.K ρ H l σ ∧ m + i = ds.length ∧ After X.K cA W ρ H (rS X.K) (forL chk t b (ds.drop i) l S) (endQ E), ⟨ds.length, ρ1, S1, l1, Ext.refl _ _, hS1, hl1, by omega, by rw [List.drop_zero]; exact h⟩, fun i m σ H h => ?_⟩
    obtain ⟨ρ, S, l, e1, hS, hl, hm, h⟩ := h
    by_cases hi : i < ds.length
    · have hd : ds.drop i = ds[i] :: ds.drop (i + 1) := List.drop_eq_getElem_cons hi
      rw [hd] at h
      unfold forL at h
      split at h
      · rename_i hk
        obtain ⟨hgo, hy⟩ := hJ.go ρ H S e1 hS hk i ds[i] (List.getElem?_eq_getElem hi)
        refine .inr ⟨hgo, fun σ' H' => ∃ ρ S l, Ext ρ1 H1 ρ H' ∧ Reps X.K cA ρ H' S ∧ RepL X.K ρ H' l σ' ∧ After X.K cA W ρ H' (rS X.K) (forL chk t b (ds.drop (i + 1)) l S) (endQ E), fun σ' H' ⟨ρ', S', l', a1, a2, a3, a4⟩ => ⟨m - 1, by omega, ρ', S', l', a1, a2, a3, by omega, a4⟩, fun x H' y => ?_⟩
        obtain ⟨e2, same, rx⟩ := hy x H' y
        have hS' := hS.other e2 same
        refine ⟨ρ, S, l, ds[i], hS', hl.ext e2, rx, ?_⟩
        have h' := After.back st_S e2 h
        refine (After.bind' (rep := rL X.K) st_S h').imp fun σ2 H2 h => ?_
        obtain ⟨ρ2, S2, l2, e3, hS2, hl2, h⟩ := h
        refine ⟨ρ2, S2, l2, hS2, hl2, ?_⟩
        have e13 := (e1.trans e2).trans e3
        refine (After.bind (rep := rS X.K) st_S h).imp fun bb H3 h => ?_
        obtain ⟨ρ3, S3, a, e4, hS3, ⟨hl3, hf⟩, h⟩ := h
        obtain ⟨f, l3⟩ := a
        obtain ⟨g, σ3⟩ := bb
        cases f with
        | nx => cases g with
          | nx => exact ⟨ρ3, S3, l3, e13.trans e4, hS3, hl3, h⟩
          | _ => exact hf.elim
        | rt d => cases g with
          | rt v => exact After.same (rep := rS X.K) (a := (Fl.rt d, l3)) (b := (FlV.rt v, σ3)) (Q := endQ E) h hS3 ⟨hl3, hf⟩
          | _ => exact hf.elim
        | bk => cases g with
          | bk => exact After.same (rep := rS X.K) (a := (Fl.nx, l3)) (b := (FlV.nx, σ3)) (Q := endQ E) h hS3 ⟨hl3, trivial⟩
          | _ => exact hf.elim
        | ct => cases g with
          | ct => exact ⟨ρ3, S3, l3, e13.trans e4, hS3, hl3, h⟩
          | _ => exact hf.elim
      · exact h.elim
    · have ei : i = ds.length := by omega
      subst ei
      rw [List.drop_length] at h
      unfold forL at h
      split at h
      · rename_i hk
        exact .inl ⟨hJ.stop ρ H S e1 hS hk, After.same (b := (FlV.nx, σ)) h hS ⟨hl, trivial⟩⟩
      · exact h.elim
where
  After.bind' {α β γ δ : Type} {K : PySem.W.Frag} {cA : Nat → Addr} {W : XK} {ρ : List Addr} {H : Hp} {rep : Rel α β} {rep' : Rel γ δ} (st : Stable rep') {r : R α} {f : α → Store → R γ} {Q : δ → Hp → Prop} (h : After K cA W ρ H rep' (r.bind f) Q) :
    After K cA W ρ H rep r fun b H1 => ∃ ρ1 S1 a, Ext ρ H ρ1 H1 ∧ Reps K cA ρ1 H1 S1 ∧ rep H ρ1 H1 a b ∧ After K cA W ρ1 H1 rep' (f a S1) Q := After.bind st h
end
end ML

set_option Elab.async false
set_option linter.all false
set_option maxRecDepth 100000
set_option autoImplicit false
/-! ML8: what is walked, comprehensions, calls, defs. -/
namespace ML
open PySem PySem.Spec L2

/-! ### what is walked -/
def still : Store → Prop := fun _ => True
def signsOf (z : Str) : List D := z.cps.toList.map fun c => .str ⟨#[c]⟩
/-- the items of a value -/
def srcD (d : D) (S : Store) : R Sn := match d with
  | .tup xs => .ok (xs, still) S
  | .lis xs => .ok (xs, still) S
  | .str z => .ok (signsOf z, still) S
  | .ref n => match lstAt S n with
    | some xs => .ok (xs, fun S' => lstAt S' n = some xs) S
    | none => .bad
  | _ => .bad
def srcV (m : ME) : Loc → Store → R Sn := fun l S => (m l S).bind srcD
def srcN (m : MA) : Loc → Store → R Sn := fun l S => (m l S).bind fun ds S1 => .ok (ds, still) S1
def intsFrom (lo : Int) (n : Nat) : List D := (List.range n).map fun i => .int (lo + (i : Nat))
def rng1 (ds : List D) (S : Store) : R Sn := match ds with
  | [.int j] => if -(2 ^ 62) ≤ j ∧ j < 2 ^ 62 then .ok (intsFrom 0 j.toNat, still) S else .bad
  | _ => .bad
def rng2 (ds : List D) (S : Store) : R Sn := match ds with
  | [.int i, .int j] => if -(2 ^ 62) ≤ i ∧ i < 2 ^ 62 ∧ -(2 ^ 62) ≤ j ∧ j < 2 ^ 62 then .ok (intsFrom i (j - i).toNat, still) S else .bad
  | _ => .bad
def srcR1 (m : MA) : Loc → Store → R Sn := fun l S => (m l S).bind rng1
def srcR2 (m : MA) : Loc → Store → R Sn := fun l S => (m l S).bind rng2
section
variable {X : Cx} {cA : Nat → Addr} {W : XK} {pos p0 : Pos} {tg e a b : Expr} {m : ME} {n : MA} {K : PySem.W.Frag}
theorem _root_.L2.PI.imp {X : Cx} {tg e : Expr} {w w' : TI} (h : PI X tg e w) (i : ∀ σ H R, w' σ H R → w σ H R) : PI X tg e w' := ⟨fun pins s σ H R I q => h.run pins s σ H R I (i σ H R q)⟩
theorem _root_.L2.PI.or {X : Cx} {tg e : Expr} {w w' : TI} (h : PI X tg e w) (h' : PI X tg e w') : PI X tg e (fun σ H R => w σ H R ∨ w' σ H R) := ⟨fun pins s σ H R I q => q.elim (h.run pins s σ H R I) (h'.run pins s σ H R I)⟩
theorem ext_self {ρ : List Addr} {H : Hp} : Ext ρ H ρ H ∧ ∀ a ∈ ρ, H a = H a := ⟨Ext.refl _ _, fun _ _ => rfl⟩
/-- a tuple that stands -/
theorem src_tup {ρ : List Addr} {H : Hp} {x : Addr} {vs : List V} {ds : List D} (hs : SqT K H x vs) (hr : RepVs K ρ H ds vs) : SrcOk K cA (Itt K x) ρ H (ds, still) := by
  have len := RepVs.length hr
  refine ⟨fun ρ' H' S e _ _ i d hd => ?_, fun ρ' H' S e _ _ => ⟨vs, SqT.ext e hs, Nat.le_of_eq len⟩⟩
  obtain ⟨v, hv, r⟩ := RepVs.get hr i d hd
  refine ⟨⟨vs, v, SqT.ext e hs, hv⟩, fun y H2 hy => ?_⟩
  obtain ⟨rfl, hy⟩ := hy
  have : vs[i]? = some y := hy vs (SqT.ext e hs)
  rw [hv] at this
  cases this
  exact ⟨ext_self.1, ext_self.2, r.ext e⟩
/-- a list that stands -/
theorem src_lst {ρ : List Addr} {H : Hp} {x : Addr} {ds : List D} {chk : Store → Prop} (hs : ∀ (ρ' : List Addr) (H' : Hp) (S : Store), Ext ρ H ρ' H' → Reps K cA ρ' H' S → chk S → ∃ vs, SqL K H' x vs ∧ RepVs K ρ' H' ds vs) : SrcOk K cA (Itl K x) ρ H (ds, chk) := by
  refine ⟨fun ρ' H' S e hS hk i d hd => ?_, fun ρ' H' S e hS hk => ?_⟩
  · obtain ⟨vs, hq, hr⟩ := hs ρ' H' S e hS hk
    obtain ⟨v, hv, r⟩ := RepVs.get hr i d hd
    refine ⟨⟨vs, v, hq, hv⟩, fun y H2 hy => ?_⟩
    obtain ⟨rfl, hy⟩ := hy
    have : vs[i]? = some y := hy vs hq
    rw [hv] at this
    cases this
    exact ⟨ext_self.1, ext_self.2, r⟩
  · obtain ⟨vs, hq, hr⟩ := hs ρ' H' S e hS hk
    exact ⟨vs, hq, Nat.le_of_eq (RepVs.length hr)⟩
theorem src_str {ρ : List Addr} {H : Hp} {z : Str} : SrcOk K cA (Its z) ρ H (signsOf z, still) := by
  have len : (signsOf z).length = z.cps.size := by simp [signsOf]
  refine ⟨fun ρ' H' S e _ _ i d hd => ?_, fun ρ' H' S e _ _ => Nat.le_of_eq len.symm⟩
  have hi : i < z.cps.size := by rw [← len]; exact (List.getElem?_eq_some_iff.mp hd).1
  refine ⟨hi, fun y H2 hy => ?_⟩
  obtain ⟨rfl, c, hc, rfl⟩ := hy
  refine ⟨ext_self.1, ext_self.2, ?_⟩
  have : d = .str ⟨#[c]⟩ := by
    unfold signsOf at hd
    rw [List.getElem?_map] at hd
    have hc' : z.cps.toList[i]? = some c := by simpa using hc
    rw [hc'] at hd
    exact (Option.some.inj hd).symm
  rw [this]
  unfold RepV
  rfl
theorem src_int {ρ : List Addr} {H : Hp} {lo : Int} {n : Nat} : SrcOk K cA (Itr lo n) ρ H (intsFrom lo n, still) := by
  have len : (intsFrom lo n).length = n := by simp [intsFrom]
  refine ⟨fun ρ' H' S e _ _ i d hd => ?_, fun ρ' H' S e _ _ => Nat.le_of_eq len.symm⟩
  have hi : i < n := by rw [← len]; exact (List.getElem?_eq_some_iff.mp hd).1
  refine ⟨hi, fun y H2 hy => ?_⟩
  obtain ⟨rfl, rfl⟩ := hy
  refine ⟨ext_self.1, ext_self.2, ?_⟩
  have : d = .int (lo + (i : Nat)) := by
    unfold intsFrom at hd
    rw [List.getElem?_map, List.getElem?_range hi] at hd
    exact (Option.some.inj hd).symm
  rw [this]
  unfold RepV
  rfl
/-- for .. in a value -/
theorem isrc (he : PE X e (tE X.K cA W m)) : PI X tg e (tSrc X.K cA W (srcV m)) :=
  ((pi_tup he).or ((pi_list he).or (pi_str he))).imp fun σ H R h => by
    obtain ⟨ρ, S, l, hS, hl, h⟩ := h
    unfold srcV at h
    generalize hm : m l S = r at h
    -- the kind is known at the outset: the value is
    cases r with
    | bad => exact h.elim
    | ex x S1 =>
      refine .inl ⟨ρ, S, l, hS, hl, ?_⟩
      rw [hm]
      exact h
    | ok d S1 =>
      have h : After X.K cA W ρ H (rSrc X.K cA) (srcD d S1) R := h
      unfold srcD at h
      have st : ∀ {k : It → Hp → Prop} {q : V → Hp → Prop}, (∀ ρ' H' v, Ext ρ H ρ' H' → Reps X.K cA ρ' H' S1 → RepV X.K ρ' H' d v → q v H') → tE X.K cA W m σ H q := fun {k q} hq => ⟨ρ, S, l, hS, hl, by rw [hm]; exact hq⟩
      split at h
      · refine .inl (st (k := R) fun ρ' H' v e1 hS1 hr => ?_)
        unfold RepV at hr
        obtain ⟨x, vs, rfl, h1, h2⟩ := hr
        exact ⟨x, rfl, ⟨vs, h1⟩, h ρ' H' _ e1 hS1 (src_tup h1 h2)⟩
      · refine .inr (.inl (st (k := R) fun ρ' H' v e1 hS1 hr => ?_))
        unfold RepV at hr
        obtain ⟨x, vs, rfl, h1, h2⟩ := hr
        exact ⟨x, rfl, ⟨vs, h1.sq⟩, h ρ' H' _ e1 hS1 (src_lst (chk := still) fun ρ2 H2 S2 e2 _ _ => ⟨vs, (h1.ext e2).sq, RepVs.ext e2 h2⟩)⟩
      · refine .inr (.inr (st (k := R) fun ρ' H' v e1 hS1 hr => ?_))
        unfold RepV at hr
        subst hr
        exact ⟨_, rfl, h ρ' H' _ e1 hS1 src_str⟩
      · split at h
        · rename_i n _ _ xs e0
          refine .inr (.inl (st (k := R) fun ρ' H' v e1 hS1 hr => ?_))
          obtain ⟨x, vs, rfl, ha, h1, h2⟩ := rlst_rep hS1 hr e0
          refine ⟨x, rfl, ⟨vs, SqL.of h1⟩, h ρ' H' _ e1 hS1 (src_lst fun ρ2 H2 S2 e2 hS2 hk => ?_)⟩
          have hr2 : RepV X.K ρ2 H2 (.ref n) (.ref x) := hr.ext e2
          obtain ⟨x', vs', ex, _, h3, h4⟩ := rlst_rep hS2 hr2 hk
          cases ex
          exact ⟨vs', SqL.of h3, h4⟩
        · exact h.elim
      · exact h.elim
/-- for .. in a new list -/
theorem isrcN (he : PE X e (tNw X.K cA W n)) : PI X tg e (tSrc X.K cA W (srcN n)) :=
  (pi_list he).imp fun σ H R h => by
    obtain ⟨ρ, S, l, hS, hl, h⟩ := h
    refine ⟨ρ, S, l, hS, hl, (After.bind (rep := rNew X.K) st_Src h).imp fun v H1 h => ?_⟩
    obtain ⟨ρ1, S1, ds, e1, hS1, ⟨p, vs, rfl, h0, hn, h1, h2⟩, h⟩ := h
    exact ⟨p, rfl, ⟨vs, SqL.of h1⟩, After.same (rep := rSrc X.K cA) h hS1 (src_lst (chk := still) fun ρ2 H2 S2 e2 _ _ => ⟨vs, SqL.of (e2.keep p _ h1 hn), RepVs.ext e2 h2⟩)⟩
theorem irng1 (hg : Gl X "range") (hm : X.mg "range" = none) (ha : PA X [a] (tAs X.K cA W n)) (hs : starEach [a] X.env = [(false, eval a X.env)] := by rfl) : PI X tg (.Call (.Name "range" p0) [a] [] pos) (tSrc X.K cA W (srcR1 n)) :=
  (pi_range1 hg hm ha hs).imp fun σ H R h => (bind1 (rep1 := rVs X.K) st_Src h).imp fun vs H1 h => by
    obtain ⟨ρ, S, ds, hS, hr, h⟩ := h
    unfold rng1 at h
    split at h
    · split at h
      · rename_i hz
        obtain ⟨v, rfl, h1⟩ := one_rep hr
        unfold RepV at h1
        subst h1
        exact ⟨_, rfl, hz.1, hz.2, After.same (rep := rSrc X.K cA) h hS src_int⟩
      · exact h.elim
    · exact h.elim
theorem irng2 (hg : Gl X "range") (hm : X.mg "range" = none) (ha : PA X [a, b] (tAs X.K cA W n)) (hs : starEach [a, b] X.env = [(false, eval a X.env), (false, eval b X.env)] := by rfl) (hs2 : starEach [b] X.env = [(false, eval b X.env)] := by rfl) : PI X tg (.Call (.Name "range" p0) [a, b] [] pos) (tSrc X.K cA W (srcR2 n)) :=
  (pi_range2 hg hm ha hs hs2).imp fun σ H R h => (bind1 (rep1 := rVs X.K) st_Src h).imp fun vs H1 h => by
    obtain ⟨ρ, S, ds, hS, hr, h⟩ := h
    unfold rng2 at h
    split at h
    · split at h
      · rename_i hz
        obtain ⟨v, w, rfl, h1, h2⟩ := two_rep hr
        unfold RepV at h1 h2
        subst h1 h2
        exact ⟨_, _, rfl, hz, After.same (rep := rSrc X.K cA) h hS src_int⟩
      · exact h.elim
    · exact h.elim
end

/-! ### comprehensions -/
def R.noex {α : Type} : R α → R α
  | .ok a S => .ok a S
  | _ => .bad
abbrev W0 : XK := fun _ _ _ => False
theorem After.noex {α β : Type} {K : PySem.W.Frag} {cA : Nat → Addr} {W W' : XK} {ρ : List Addr} {H : Hp} {rep : Rel α β} {r : R α} {Q : β → Hp → Prop} (h : After K cA W ρ H rep r.noex Q) : After K cA W' ρ H rep r Q := by
  cases r with
  | ok a S => exact h
  | ex x S => exact h.elim
  | bad => exact h.elim
theorem noex_bind {α β : Type} (r : R α) (f : α → Store → R β) : (r.bind f).noex = r.noex.bind fun a S => (f a S).noex := by cases r <;> rfl
/-- the slots of the block's own names -/
def wipeL (l : Loc) : List Nat → Loc
  | [] => l
  | v :: vs => (wipeL l vs).set v none
def yesM : MB := fun _ S => .ok true S
/-- how a block's target is set: one name, or several -/
inductive Tgt where
  | one (i : Nat) | many (is : List Nat)
def Tgt.own : Tgt → List Nat
  | .one i => [i]
  | .many is => is
def Tgt.put (t : Tgt) (d : D) (l : Loc) : Option Loc := match t with
  | .one i => some (l.set i (some d))
  | .many is => match d with
    | .tup xs => namesL is xs l
    | _ => none
open Classical in
noncomputable def compL (chk : Store → Prop) (t : Tgt) (c : MB) (m : ME) (l : Loc) : List D → List D → Store → R (List D)
  | [], acc, S => if chk S then .ok acc S else .bad
  | d :: ds, acc, S => if chk S then (match t.put d l with
    | some l1 => (c l1 S).bind fun b S1 => if b = true then (m l1 S1).bind fun y S2 => if acc.length < sizeLine then compL chk t c m l ds (acc ++ [y]) S2 else .bad else compL chk t c m l ds acc S1
    | none => .bad) else .bad
noncomputable def compN (src : Loc → Store → R Sn) (t : Tgt) (c : MB) (m : ME) : MA := fun l S => (src l S).bind fun p S1 => (compL p.2 t c m (wipeL l t.own) p.1 [] S1).noex
section
variable {X : Cx} {cA : Nat → Addr} {W : XK} {K : PySem.W.Frag}
theorem RepL.wipe {ρ : List Addr} {H : Hp} {l : Loc} {σ : L2.St} (h : RepL K ρ H l σ) : ∀ vs : List Nat, RepL K ρ H (wipeL l vs) (wipe σ vs)
  | [] => h
  | v :: vs => by
    have ih := RepL.wipe h vs
    refine ⟨by unfold wipeL L2.wipe; rw [List.length_set, List.length_set]; exact ih.len, fun j e hj => ?_⟩
    unfold wipeL at hj
    unfold L2.wipe
    by_cases q : v = j
    · subst q
      have hi : v < (wipeL l vs).length := by
        have := (List.getElem?_eq_some_iff.mp hj).1
        rwa [List.length_set] at this
      rw [List.getElem?_set_self hi] at hj
      cases hj
    · rw [List.getElem?_set_ne q] at hj
      obtain ⟨w, hw, r⟩ := ih.at_ j e hj
      exact ⟨w, by rw [List.getElem?_set_ne q]; exact hw, r⟩
theorem set_wipe {σ : L2.St} {i : Nat} {v : Option V} : ∀ {vs : List Nat}, i ∈ vs → wipe (σ.set i v) vs = wipe σ vs
  | [], h => nomatch h
  | j :: vs, h => by
    unfold L2.wipe
    by_cases q : j = i
    · subst q
      by_cases hm : j ∈ vs
      · rw [set_wipe hm]
      · rw [wipe_set_comm hm, List.set_set]
    · rcases List.mem_cons.mp h with e | hm
      · exact absurd e.symm q
      · rw [set_wipe hm]
where
  wipe_set_comm {σ : L2.St} {i : Nat} {v : Option V} : ∀ {vs : List Nat}, i ∉ vs → wipe (σ.set i v) vs = (wipe σ vs).set i v
    | [], _ => rfl
    | j :: vs, h => by
      unfold L2.wipe
      have h1 : j ≠ i := fun e => h (by simp [e])
      have h2 : i ∉ vs := fun e => h (by simp [e])
      rw [wipe_set_comm h2, List.set_comm _ _ (Ne.symm h1)]
/-- the raw reading of a target -/
def gT (K : PySem.W.Frag) : Tgt → TG
  | .one i => gName i
  | .many is => gTup K is.length (gNms is)
theorem gNms_of {ρ : List Addr} {H : Hp} : ∀ {is : List Nat} {ds : List D} {vs : List V} {l l1 : Loc} {σ : L2.St} {own : List Nat} {Q : L2.St → Hp → Prop}, (∀ i ∈ is, i ∈ own) → namesL is ds l = some l1 → RepVs K ρ H ds vs → RepL K ρ H l σ →
    (∀ σ1, RepL K ρ H l1 σ1 → wipe σ1 own = wipe σ own → Q σ1 H) → gNms is vs σ H Q
  | [], [], vs, l, l1, σ, own, Q, ho, h, r, hl, q => by
    unfold RepVs at r
    cases h
    exact ⟨r, q σ hl rfl⟩
  | i :: is, d :: ds, vs, l, l1, σ, own, Q, ho, h, r, hl, q => by
    unfold RepVs at r
    obtain ⟨v, w, rfl, h1, h2⟩ := r
    refine ⟨v, w, rfl, gNms_of (is := is) (own := own) (fun i hi => ho i (List.mem_cons_of_mem _ hi)) h h2 (hl.set h1 i) fun σ1 hl1 e => q σ1 hl1 ?_⟩
    rw [e, set_wipe (ho i List.mem_cons_self)]
  | [], _ :: _, _, _, _, _, _, _, _, h, _, _, _ => nomatch h
  | _ :: _, [], _, _, _, _, _, _, _, h, _, _, _ => nomatch h
theorem gT_of {ρ : List Addr} {H : Hp} {t : Tgt} {d : D} {v : V} {l l1 : Loc} {σ : L2.St} {Q : L2.St → Hp → Prop} (h : t.put d l = some l1) (r : RepV K ρ H d v) (hl : RepL K ρ H l σ) (q : ∀ σ1, RepL K ρ H l1 σ1 → wipe σ1 t.own = wipe σ t.own → Q σ1 H) : gT K t v σ H Q := by
  cases t with
  | one i =>
    cases h
    exact q _ (hl.set r i) (set_wipe (by simp [Tgt.own]))
  | many is =>
    unfold Tgt.put at h
    cases d with
    | tup xs =>
      unfold RepV at r
      obtain ⟨a, vs, rfl, h1, h2⟩ := r
      exact ⟨a, vs, rfl, h1, by rw [RepVs.length h2]; exact namesL_len h, gNms_of (own := is) (fun _ h => h) h h2 hl q⟩
    | _ => cases h
theorem wipe_wipe {σ : L2.St} : ∀ {vs : List Nat}, wipe (wipe σ vs) vs = wipe σ vs
  | [] => rfl
  | v :: vs => by
    rw [show wipe σ (v :: vs) = (wipe σ vs).set v none from rfl]
    exact (set_wipe List.mem_cons_self).trans (by show (wipe (wipe σ vs) vs).set v none = _; rw [wipe_wipe])
variable {elt tg iter : Expr} {ifs : List Expr} {scope : Scope} {own : List (Str × Nat)} {pos spos : Pos} {src : Loc → Store → R Sn} {t : Tgt} {c : MB} {m : ME}
mutual
theorem RepV.hp {ρ : List Addr} {H H' : Hp} (t1 : ∀ a xs, Rd H a (.tup xs) → Rd H' a (.tup xs)) (t2 : ∀ a o xs, H a = some (.frz o (.lst xs)) → H' a = some (.frz o (.lst xs))) : ∀ {d : D} {v : V}, RepV K ρ H d v → RepV K ρ H' d v
  | .non, _, h => h
  | .bl _, _, h => h
  | .int _, _, h => h
  | .str _, _, h => h
  | .tup xs, v, h => by
    unfold RepV at h ⊢
    obtain ⟨a, vs, ev, hs, hr⟩ := h
    refine ⟨a, vs, ev, ?_, RepVs.hp t1 t2 hr⟩
    rcases hs with hs | hs
    · exact .inl (t1 a vs hs)
    · exact .inr hs
  | .lis xs, v, h => by
    unfold RepV at h ⊢
    obtain ⟨a, vs, ev, hs, hr⟩ := h
    refine ⟨a, vs, ev, ?_, RepVs.hp t1 t2 hr⟩
    rcases hs with ⟨o, hs⟩ | hs
    · exact .inl ⟨o, t2 a o vs hs⟩
    · exact .inr hs
  | .ref n, v, h => h
  | .exn _, v, h => h
theorem RepVs.hp {ρ : List Addr} {H H' : Hp} (t1 : ∀ a xs, Rd H a (.tup xs) → Rd H' a (.tup xs)) (t2 : ∀ a o xs, H a = some (.frz o (.lst xs)) → H' a = some (.frz o (.lst xs))) : ∀ {ds : List D} {vs : List V}, RepVs K ρ H ds vs → RepVs K ρ H' ds vs
  | [], _, h => h
  | x :: xs, vs, h => by
    unfold RepVs at h ⊢
    obtain ⟨v, r, ev, h1, h2⟩ := h
    exact ⟨v, r, ev, RepV.hp t1 t2 h1, RepVs.hp t1 t2 h2⟩
end
theorem RepP.hp {ρ : List Addr} {H H' : Hp} (t1 : ∀ a xs, Rd H a (.tup xs) → Rd H' a (.tup xs)) (t2 : ∀ a o xs, H a = some (.frz o (.lst xs)) → H' a = some (.frz o (.lst xs))) {κ : Type} : ∀ {kvs : List (κ × D)} {ps : List (κ × V)}, RepP K ρ H kvs ps → RepP K ρ H' kvs ps
  | [], _, h => h
  | (k, x) :: r, ps, h => by
    unfold RepP at h ⊢
    obtain ⟨v, q, ev, h1, h2⟩ := h
    exact ⟨v, q, ev, h1.hp t1 t2, RepP.hp t1 t2 h2⟩
/-- an inner step, the wish kept of where it began -/
theorem After.step {α β γ δ : Type} {W : XK} {ρ1 ρ2 : List Addr} {H1 H2 : Hp} {rep : Rel α β} {rep' : Rel γ δ} {r : R α} {f : α → Store → R γ} {Q : δ → Hp → Prop} (h : After K cA W ρ1 H1 rep' (r.bind f) Q) (e : Ext ρ1 H1 ρ2 H2) :
    After K cA W ρ2 H2 rep r fun b H3 => ∃ ρ3 S3 a, Ext ρ2 H2 ρ3 H3 ∧ Reps K cA ρ3 H3 S3 ∧ rep H2 ρ3 H3 a b ∧ After K cA W ρ1 H1 rep' (f a S3) Q := by
  cases r with
  | ok a S => exact fun ρ' H' b e' hs hr => ⟨ρ', S, a, e', hs, hr, h⟩
  | ex x S => exact fun ρ' H' c d e' hs hr => h ρ' H' c d (e.trans e') hs hr
  | bad => exact h
/-- the list that is being built is written -/
structure Owned (D0 : Addr) (ρ1 : List Addr) (H1 : Hp) (ρ2 : List Addr) (H2 : Hp) (vs : List V) : Prop where
  no : H1 D0 = none
  ext : Ext ρ1 H1 ρ2 H2
  nin : D0 ∉ ρ2
  at_ : H2 D0 = some (.lst vs)
section
variable {D0 : Addr} {ρ1 ρ2 ρ3 : List Addr} {H1 H2 H3 : Hp} {vs ws : List V}
theorem Owned.go (o : Owned D0 ρ1 H1 ρ2 H2 vs) (e : Ext ρ2 H2 ρ3 H3) : Owned D0 ρ1 H1 ρ3 H3 vs := by
  refine ⟨o.no, o.ext.trans e, fun hm => ?_, e.keep D0 _ o.at_ o.nin⟩
  obtain ⟨r, er, nr⟩ := e.pre
  rw [er] at hm
  rcases List.mem_append.mp hm with z | z
  · exact o.nin z
  · have := nr D0 z
    rw [o.at_] at this; cases this
theorem Owned.t1 (o : Owned D0 ρ1 H1 ρ2 H2 vs) : ∀ a xs, Rd H2 a (.tup xs) → Rd (upd H2 D0 (.lst ws)) a (.tup xs) := fun a xs h => by
  have ne : a ≠ D0 := by
    rintro rfl
    rcases h with h | ⟨u, h⟩ <;> (rw [o.at_] at h; cases h)
  rcases h with h | ⟨u, h⟩
  · exact .inl (by rw [upd_ne ne]; exact h)
  · exact .inr ⟨u, by rw [upd_ne ne]; exact h⟩
theorem Owned.t2 (o : Owned D0 ρ1 H1 ρ2 H2 vs) : ∀ a u xs, H2 a = some (.frz u (.lst xs)) → (upd H2 D0 (.lst ws)) a = some (.frz u (.lst xs)) := fun a u xs h => by
  have ne : a ≠ D0 := by
    rintro rfl
    rw [o.at_] at h; cases h
  rw [upd_ne ne]; exact h
theorem Owned.put (o : Owned D0 ρ1 H1 ρ2 H2 vs) : Owned D0 ρ1 H1 ρ2 (upd H2 D0 (.lst ws)) ws := by
  have ne : ∀ {b : Addr}, H1 b ≠ none → b ≠ D0 := fun {b} hb e => hb (by rw [e]; exact o.no)
  obtain ⟨r, er, nr⟩ := o.ext.pre
  refine ⟨o.no, ⟨⟨r, er, nr⟩, fun b q hb nb => ?_, fun b xs hb => o.t1 b xs (o.ext.tups b xs hb), fun b q xs hb => o.t2 b q xs (o.ext.frzs b q xs hb), fun b hb => ?_⟩, o.nin, upd_same⟩
  · rw [upd_ne (ne (by rw [hb]; simp))]; exact o.ext.keep b q hb nb
  · rw [upd_ne (ne hb)]; exact o.ext.there b hb
theorem Owned.reps {S : Store} (o : Owned D0 ρ1 H1 ρ2 H2 vs) (h : Reps K cA ρ2 H2 S) : Reps K cA ρ2 (upd H2 D0 (.lst ws)) S := by
  refine ⟨h.len, h.nd, fun n c a hc ha => ?_⟩
  have na : a ≠ D0 := fun e => o.nin (by rw [← e]; exact List.mem_of_getElem? ha)
  have q := h.at_ n c a hc ha
  cases c with
  | lst xs => obtain ⟨vs, h1, h2⟩ := q; exact ⟨vs, by rw [upd_ne na]; exact h1, h2.hp o.t1 o.t2⟩
  | dct xs => obtain ⟨vs, h1, h2⟩ := q; exact ⟨vs, by rw [upd_ne na]; exact h1, h2.hp o.t1 o.t2⟩
  | dlk xs => obtain ⟨u, vs, h1, h2⟩ := q; exact ⟨u, vs, by rw [upd_ne na]; exact h1, h2.hp o.t1 o.t2⟩
  | ins c xs => obtain ⟨dx, vs, h1, h2⟩ := q; exact ⟨dx, vs, by rw [upd_ne na]; exact h1, h2.hp o.t1 o.t2⟩
end
/-- what a comprehension asks -/
theorem comp_of (ho : own.map (·.2) = t.own) {σ : L2.St} {H : Hp} {Q : VK} (h : tNw X.K cA W (compN src t c m) σ H Q) : tLc (tSrc X.K cA W src) (gT X.K t) (tT X.K cA W0 c) (tE X.K cA W0 m) (own.map (·.2)) σ H Q := by
  rw [ho]
  obtain ⟨ρ, S, l, hS, hl, h⟩ := h
  refine ⟨ρ, S, l, hS, hl, (After.bind (rep := rSrc X.K cA) st_New h).imp fun J H1 h => ?_⟩
  obtain ⟨ρ1, S1, p, e1, hS1, hJ, h⟩ := h
  intro D0 hD
  have hl1 : RepL X.K ρ1 H1 (wipeL l t.own) (wipe σ t.own) := (hl.ext e1).wipe t.own
  -- the invariant: behind i turns
  refine ⟨fun i k H2 => ∃ ρ2 S2 acc vs, Owned D0 ρ1 H1 ρ2 H2 vs ∧ Reps X.K cA ρ2 H2 S2 ∧ RepVs X.K ρ2 H2 acc vs ∧ k + i = p.1.length ∧
    After X.K cA W ρ1 H1 (rNew X.K) (compL p.2 t c m (wipeL l t.own) (p.1.drop i) acc S2).noex Q, ?_, ?_⟩
  · refine ⟨p.1.length, ρ1, S1, [], [], ⟨hD, Ext.new hD, hS1.free hD, upd_same⟩, hS1.new hD, .nil, by omega, ?_⟩
    rw [List.drop_zero]
    exact h
  · rintro i k H2 ⟨ρ2, S2, acc, vs, o, hS2, hr, hk, h⟩
    by_cases hi : i < p.1.length
    · have hd : p.1.drop i = p.1[i] :: p.1.drop (i + 1) := List.drop_eq_getElem_cons hi
      rw [hd] at h
      unfold compL at h
      split at h
      · rename_i hc
        obtain ⟨hgo, hy⟩ := hJ.go ρ2 H2 S2 o.ext hS2 hc i p.1[i] (List.getElem?_eq_getElem hi)
        refine .inr ⟨hgo, fun H' => ∃ ρ2 S2 acc vs, Owned D0 ρ1 H1 ρ2 H' vs ∧ Reps X.K cA ρ2 H' S2 ∧ RepVs X.K ρ2 H' acc vs ∧
          After X.K cA W ρ1 H1 (rNew X.K) (compL p.2 t c m (wipeL l t.own) (p.1.drop (i + 1)) acc S2).noex Q, fun H' ⟨ρ2, S2, acc, vs, a1, a2, a3, a4⟩ => ⟨k - 1, by omega, ρ2, S2, acc, vs, a1, a2, a3, by omega, a4⟩, fun x H3 hx => ?_⟩
        obtain ⟨e3, same, rx⟩ := hy x H3 hx
        have hS3 := hS2.other e3 same
        have o3 := o.go e3
        split at h
        · rename_i l1 el
          have hl3 : RepL X.K ρ2 H3 (wipeL l t.own) (wipe σ t.own) := hl1.ext o3.ext
          refine gT_of el rx hl3 fun σ1 hs1 hw => ⟨hw.trans wipe_wipe, ?_⟩
          rw [noex_bind] at h
          refine ⟨ρ2, S2, l1, hS3, hs1, After.noex (W := W) ((After.step (rep := rId) h o3.ext).imp fun tb H4 hq => ?_)⟩
          obtain ⟨ρ4, S4, tb', e4, hS4, ht, h⟩ := hq
          subst ht
          have o4 := o3.go e4
          have hr4 : RepVs X.K ρ4 H4 acc vs := RepVs.ext e4 (RepVs.ext e3 hr)
          cases tb' with
          | true =>
            simp only [if_true] at h ⊢
            rw [noex_bind] at h
            refine ⟨ρ4, S4, l1, hS4, hs1.ext e4, After.noex (W := W) ((After.step (rep := rV X.K) h o4.ext).imp fun y H5 hq => ?_)⟩
            obtain ⟨ρ5, S5, yd, e5, hS5, ry, h⟩ := hq
            have o5 := o4.go e5
            have hr5 := RepVs.ext e5 hr4
            split at h
            · rename_i hz
              refine ⟨vs, o5.at_, by rw [RepVs.length hr5]; exact hz, ρ5, S5, acc ++ [yd], vs ++ [y], o5.put, o5.reps hS5, ?_, h⟩
              exact RepVs.hp o5.t1 o5.t2 (hr5.append (.cons ry .nil))
            · exact h.elim
          | false =>
            exact ⟨ρ4, S4, acc, vs, o4, hS4, hr4, h⟩
        · exact h.elim
      · exact h.elim
    · have ei : i = p.1.length := by omega
      subst ei
      rw [List.drop_length] at h
      unfold compL at h
      split at h
      · rename_i hc
        exact .inl ⟨hJ.stop ρ2 H2 S2 o.ext hS2 hc, h ρ2 H2 _ o.ext hS2 ⟨D0, vs, rfl, hD, o.nin, o.at_, hr⟩⟩
      · exact h.elim
/-- [elt for .. in .. if ..] -/
theorem mcomp (ho : own.map (·.2) = t.own) (hc : X.calm = true) (hN : X.N.Nodup) (hi : PI X tg iter (tSrc X.K cA W src)) (ok : BlkOk X.N X.env.scope scope own)
    (hg : ∀ (s : Shared) (H : Hp) (C : Addr) (cl : List (Str × Addr)) (fp : List Addr), PG (X.blk s H scope (compEnvC scope cl C X.env) fp) tg (gT X.K t)) (ht : ∀ (s : Shared) (H : Hp) (C : Addr) (cl : List (Str × Addr)) (fp : List Addr), PTs (X.blk s H scope (compEnvC scope cl C X.env) fp) ifs (tT X.K cA W0 c))
    (he : ∀ (s : Shared) (H : Hp) (C : Addr) (cl : List (Str × Addr)) (fp : List Addr), PE (X.blk s H scope (compEnvC scope cl C X.env) fp) elt (tE X.K cA W0 m)) (hs : ∀ x, foldedSetIterable iter X.env x = pure x := by intro _; rfl) :
    PE X (.ListComp elt [⟨tg, iter, ifs, 0⟩] scope pos) (tNw X.K cA W (compN src t c m)) :=
  (pe_lc hc hN hi ok hg ht he hs).imp fun σ H Q h => comp_of ho h
/-- y = [elt for .. in .. if ..] -/
theorem ssetC {i : Nat} {y : Str} {py : Pos} (ho : own.map (·.2) = t.own) (hc : X.calm = true) (hN : X.N.Nodup) (hy : X.N[i]? = some y) (hyl : X.env.scope.names.lookup y = some .local)
    (hsw : swapsWith (.ListComp elt [⟨tg, iter, ifs, 0⟩] scope pos) (some (.Name y py)) spos.line X.env = pure true) (hi : PI X tg iter (tSrc X.K cA W src)) (ok : BlkOk X.N X.env.scope scope own)
    (hg : ∀ (s : Shared) (H : Hp) (C : Addr) (cl : List (Str × Addr)) (fp : List Addr), PG (X.blk s H scope (compEnvC scope cl C X.env) fp) tg (gT X.K t)) (ht : ∀ (s : Shared) (H : Hp) (C : Addr) (cl : List (Str × Addr)) (fp : List Addr), PTs (X.blk s H scope (compEnvC scope cl C X.env) fp) ifs (tT X.K cA W0 c))
    (he : ∀ (s : Shared) (H : Hp) (C : Addr) (cl : List (Str × Addr)) (fp : List Addr), PE (X.blk s H scope (compEnvC scope cl C X.env) fp) elt (tE X.K cA W0 m)) (hs : ∀ x, foldedSetIterable iter X.env x = pure x := by intro _; rfl) :
    PS X (.Assign [.Name y py] (.ListComp elt [⟨tg, iter, ifs, 0⟩] scope pos) spos) (tS X.K cA W (setS i (allocE (compN src t c m)))) :=
  (ps_setLc hc hN hy hyl hsw hi ok hg ht he hs).imp fun E σ H h => by
    have h1 : tE X.K cA W (allocE (compN src t c m)) σ H fun v H1 => E.nx (σ.set i (some v)) H1 := (after_L (rep := rV X.K) h).imp fun v H1 h => by
      obtain ⟨ρ, S, l, d, hS, hl, hr, h⟩ := h
      exact After.same (b := (FlV.nx, σ.set i (some v))) h hS ⟨hl.set hr i, trivial⟩
    exact comp_of ho (alloc_of h1)
where
  alloc_of {n : MA} {σ : L2.St} {H : Hp} {Q : VK} (h : tE X.K cA W (allocE n) σ H Q) : tNw X.K cA W n σ H Q := by
    obtain ⟨ρ, S, l, hS, hl, h⟩ := h
    refine ⟨ρ, S, l, hS, hl, ?_⟩
    unfold allocE at h
    generalize n l S = r at h
    cases r with
    | ok ds S1 =>
      intro ρ' H' v e1 hs hr
      obtain ⟨p, vs, rfl, h0, hn, h1, h2⟩ := hr
      refine h (ρ' ++ [p]) H' (.ref p) (e1.take h0) (hs.push hn ⟨vs, h1, h2⟩) ?_
      show RepV X.K (ρ' ++ [p]) H' (.ref S1.length) (.ref p)
      unfold RepV
      exact ⟨p, by rw [← hs.len, List.getElem?_append_right (Nat.le_refl _)]; simp, rfl⟩
    | ex x S1 => exact h
    | bad => exact h
theorem tyes : PTs X [] (tT X.K cA W yesM) := ⟨fun pins s σ H Q I h => pts_nil.run pins s σ H Q I (by
  obtain ⟨ρ, S, l, hS, hl, h⟩ := h
  exact After.same (rep := rId) h hS rfl)⟩
theorem tone {c : Expr} {p : MB} (h : PT X c (tT X.K cA W p)) : PTs X [c] (tT X.K cA W p) := pts_one h
end

/-! ### calls, defs -/
def spM (K : PySem.W.Frag) (cA : Nat → Addr) (G : List D → Store → R D) (n : Nat) : Sp := fun vs H Q E => vs.length = n ∧ tN K cA E (rV K) G vs H Q
structure FnM (P : Program) (w : World) (K : PySem.W.Frag) (mg : Str → Option Value) (base : Heap) (cA : Nat → Addr) (k : Nat) (x : Str) (n : Nat) (G : List D → Store → R D) : Prop where
  ex : ∃ f fd ps, mg x = some (.ref f) ∧ PySem.W.keepIn K (.ref f) = true ∧ Binds K fd ps [] ∧ FnOk P w K mg base (L2.CX P w) k f fd ps (spM K cA G n)
def callE (n : Nat) (G : List D → Store → R D) (m : MA) : ME := fun l S => (m l S).bind fun ds S1 => if ds.length = n then G ds S1 else .bad
def startL (n : Nat) (ds : List D) : Loc := ds.map some ++ List.replicate (n - ds.length) none
def bodyF (n : Nat) (m : MS) (ds : List D) (S : Store) : R D := (m (startL n ds) S).bind fun p S1 => match p.1 with
  | .nx => .ok .non S1
  | .rt d => .ok d S1
  | _ => .bad
section
variable {X : Cx} {cA : Nat → Addr} {W : XK} {p pos : Pos} {x : Str} {e : Expr} {es : List Expr} {m : MA} {k j n : Nat} {G : List D → Store → R D}
theorem call_of {σ : L2.St} {H : Hp} {Q : VK} (h : tE X.K cA W (callE n G m) σ H Q) : tAs X.K cA W m σ H fun vs H1 => spM X.K cA G n vs H1 Q W :=
  (bind1 (rep1 := rVs X.K) st_V h).imp fun vs H1 h => by
    obtain ⟨ρ, S, ds, hS, hr, h⟩ := h
    split at h
    · rename_i hn
      exact ⟨by rw [RepVs.length hr]; exact hn, ρ, S, ds, hS, hr, h⟩
    · exact h.elim
theorem mcall (F : FnM X.prog X.w X.K X.mg X.base cA k x n G) (hk : k ≤ j) (hr : Room j X.A) (hx : Passes (L2.CX X.prog X.w) X W) (hg : Gl X x) (ha : PA X (e :: es) (tAs X.K cA W m)) (hdb : (x == ("__debug__" : Str)) = false := by decide)
    (he : starEach (e :: es) X.env = (false, eval e X.env) :: starEach es X.env := by rfl) (hpl : (backTo pos (starEach es X.env)).any (·.1) = false := by rfl) : PE X (.Call (.Name x p) (e :: es) [] pos) (tE X.K cA W (callE n G m)) := by
  obtain ⟨f, fd, ps, hm, hkp, hb, FF⟩ := F.ex
  exact (pe_call FF (hr.mono hk) hg hm hkp hb .nil hx ha hdb he hpl).imp fun σ H Q h => by
    refine (call_of h).imp fun vs H1 h => ?_
    show spM X.K cA G n (vs ++ []) H1 Q W
    rw [List.append_nil]
    exact h
theorem mcall0 (F : FnM X.prog X.w X.K X.mg X.base cA k x n G) (hk : k ≤ j) (hr : Room j X.A) (hx : Passes (L2.CX X.prog X.w) X W) (hg : Gl X x) (hdb : (x == ("__debug__" : Str)) = false := by decide) : PE X (.Call (.Name x p) [] [] pos) (tE X.K cA W (callE n G nilA)) := by
  obtain ⟨f, fd, ps, hm, hkp, hb, FF⟩ := F.ex
  exact (pe_call0 FF (hr.mono hk) hg hm hkp hb .nil hx hdb).imp fun σ H Q h => by
    obtain ⟨ρ, S, l, hS, hl, h⟩ := h
    have h : After X.K cA W ρ H (rV X.K) (if ([] : List D).length = n then G [] S else .bad) Q := h
    split at h
    · rename_i hn
      exact ⟨hn, ρ, S, [], hS, .nil, h⟩
    · exact h.elim
end
section
variable {P : Program} {w : World} {K : PySem.W.Frag} {mg : Str → Option Value} {base : Heap} {cA : Nat → Addr}
theorem start_rep {ρ : List Addr} {H : Hp} {ds : List D} {vs : List V} {N : List Str} (h : RepVs K ρ H ds vs) : RepL K ρ H (startL N.length ds) (L2.start N vs) := by
  have hl := RepVs.length h
  refine ⟨by unfold startL L2.start; simp [hl], fun i d hd => ?_⟩
  unfold startL at hd
  unfold L2.start
  by_cases q : i < ds.length
  · rw [List.getElem?_append_left (by simpa using q), List.getElem?_map] at hd
    cases e : ds[i]? with
    | none => rw [e] at hd; cases hd
    | some x =>
      rw [e] at hd
      have : x = d := Option.some.inj (Option.some.inj hd)
      subst this
      obtain ⟨v, hv, r⟩ := RepVs.get h i x e
      exact ⟨v, by rw [List.getElem?_append_left (by simpa [hl] using q), List.getElem?_map, hv]; rfl, r⟩
  · rw [List.getElem?_append_right (by simpa using q), List.getElem?_replicate] at hd
    split at hd <;> cases hd
/-- a def keeps what its body's function says -/
theorem defM {x qual : Str} {st : Stmt} {f : Addr} {fd : FuncData} {N ps : List Str} {k : Nat} {m : MS} (F : Fun K x qual st f fd) (S : FnScope N ps (defScope st))
    (hbody : ∀ (cdv : Value) (A : Around) (outer : List Env) (s : Shared) (H : Hp) (E : XK), Room k (A.deeper (PyProof.Rows.envOfC qual (defScope st) s.heap.objs.size f cdv)) →
      PSs (cxOf (L2.CX P w) P w K mg base N qual (defScope st) f cdv A outer s H E) (defBody st) (tS K cA E m)) : FnOk P w K mg base (L2.CX P w) (k + 1) f fd ps (spM K cA (bodyF N.length m) ps.length) :=
  F.okX S (fun vs H Q E h => h.1) fun cdv A outer s H vs Q E hr h => by
    obtain ⟨hl, ρ, S0, ds, hS, hrep, h⟩ := h
    refine ⟨tS K cA E m, hbody cdv A outer s H E hr, ρ, S0, startL N.length ds, hS, start_rep hrep, (After.bind (rep := rS K) st_V h).imp fun b H1 h => ?_⟩
    obtain ⟨ρ1, S1, a, e1, hS1, ⟨hl1, hf⟩, h⟩ := h
    obtain ⟨fl, l1⟩ := a
    obtain ⟨g, σ1⟩ := b
    cases fl with
    | nx => cases g with
      | nx => exact After.same (rep := rV K) h hS1 rep_non'
      | _ => exact hf.elim
    | rt d => cases g with
      | rt v => exact After.same (rep := rV K) h hS1 hf
      | _ => exact hf.elim
    | bk => exact h.elim
    | ct => exact h.elim
/-- what a def's body may hand on -/
theorem pass_def {N : List Str} {qual : Str} {scope : Scope} {f : Addr} {cd : Value} {A : Around} {outer : List Env} {s : Shared} {H : Hp} {E : XK} : Passes (L2.CX P w) (cxOf (L2.CX P w) P w K mg base N qual scope f cd A outer s H E) E :=
  passes_call (takes_of rfl rfl rfl rfl) fun _ _ _ _ h => h
theorem own_def {N : List Str} {qual : Str} {scope : Scope} {f : Addr} {cd : Value} {A : Around} {outer : List Env} {s : Shared} {H : Hp} {E : XK} : PassesOwn (model P w) (cxOf (L2.CX P w) P w K mg base N qual scope f cd A outer s H E).A (cxOf (L2.CX P w) P w K mg base N qual scope f cd A outer s H E).env (cxOf (L2.CX P w) P w K mg base N qual scope f cd A outer s H E).xe := passes_of rfl
end
end ML

set_option Elab.async false
set_option linter.all false
set_option maxRecDepth 100000
set_option autoImplicit false
/-! ML9: what is built in by its name; dicts written out; new lists compared; list(range(..)). -/
namespace ML
open PySem PySem.Spec L2

theorem bt_len : bootBuiltins "len" = some (.builtin "len") := by decide +kernel
theorem bt_abs : bootBuiltins "abs" = some (.builtin "abs") := by decide +kernel
theorem bt_max : bootBuiltins "max" = some (.builtin "max") := by decide +kernel
theorem bt_min : bootBuiltins "min" = some (.builtin "min") := by decide +kernel
theorem bt_all : bootBuiltins "all" = some (.builtin "all") := by decide +kernel
theorem bt_any : bootBuiltins "any" = some (.builtin "any") := by decide +kernel
theorem bt_sum : bootBuiltins "sum" = some (.builtin "sum") := by decide +kernel
theorem bt_sorted : bootBuiltins "sorted" = some (.builtin "sorted") := by decide +kernel
theorem bt_ord : bootBuiltins "ord" = some (.builtin "ord") := by decide +kernel
theorem bt_isinstance : bootBuiltins "isinstance" = some (.builtin "isinstance") := by decide +kernel
theorem bt_int : bootBuiltins "int" = some (.type "int") := by decide +kernel
theorem bt_str : bootBuiltins "str" = some (.type "str") := by decide +kernel
theorem bt_bool : bootBuiltins "bool" = some (.type "bool") := by decide +kernel
theorem bt_list : bootBuiltins "list" = some (.type "list") := by decide +kernel
theorem bt_tuple : bootBuiltins "tuple" = some (.type "tuple") := by decide +kernel
theorem bt_dict : bootBuiltins "dict" = some (.type "dict") := by decide +kernel
theorem bt_set : bootBuiltins "set" = some (.type "set") := by decide +kernel

/-! ### dicts written out -/
abbrev MP := Loc → Store → R (List (D × D))
def nilP : MP := fun _ S => .ok [] S
def consP (k v : ME) (r : MP) : MP := fun l S => (k l S).bind fun a S1 => (v l S1).bind fun b S2 => (r l S2).bind fun ps S3 => .ok ((a, b) :: ps) S3
def keysO (ps : List (D × D)) : Option (List (Key × D)) := mapO (fun p => (keyO p.1).map fun k => (k, p.2)) ps
def mergeD (kvs more : List (Key × D)) : List (Key × D) := more.foldl (fun acc kv => dPut acc kv.1 kv.2) kvs
def dictE (r : MP) : ME := fun l S => (r l (S ++ [.dct []])).bind fun ps S1 => match keysO ps with
  | some kvs => if kvs.length ≤ 15 then (match dctAt S1 S.length with
    | some [] => .ok (.ref S.length) (S1.set S.length (.dct (mergeD [] kvs)))
    | _ => .bad) else .bad
  | none => .bad
def dict0 : ME := fun _ S => newC (.dct []) S
def RepPr (K : PySem.W.Frag) (ρ : List Addr) (H : Hp) : List (D × D) → List (V × V) → Prop
  | [], ps => ps = []
  | (a, b) :: r, ps => ∃ x y q, ps = (x, y) :: q ∧ RepV K ρ H a x ∧ RepV K ρ H b y ∧ RepPr K ρ H r q
theorem RepPr.ext {K : PySem.W.Frag} {ρ ρ' : List Addr} {H H' : Hp} (e : Ext ρ H ρ' H') : ∀ {ds : List (D × D)} {ps : List (V × V)}, RepPr K ρ H ds ps → RepPr K ρ' H' ds ps
  | [], _, h => h
  | (a, b) :: r, ps, h => by
    obtain ⟨x, y, q, ep, h1, h2, h3⟩ := h
    exact ⟨x, y, q, ep, h1.ext e, h2.ext e, RepPr.ext e h3⟩
def rPr (K : PySem.W.Frag) : Rel (List (D × D)) (List (V × V)) := fun _ ρ H a b => RepPr K ρ H a b
theorem st_Pr {K : PySem.W.Frag} : Stable (rPr K) := fun _ _ _ _ _ _ _ _ _ h => h
/-- a display's pairs keep their reading -/
def PairsOk (K : PySem.W.Frag) (cA : Nat → Addr) (W : XK) (trs : List (TE × TE)) (r : MP) : Prop := ∀ (σ : L2.St) (H : Hp) (Q : List (V × V) → Hp → Prop), tG K cA W (rPr K) r σ H Q → tPairs trs σ H Q
section
variable {X : Cx} {cA : Nat → Addr} {W : XK} {pos : Pos} {K : PySem.W.Frag} {ρ : List Addr} {H : Hp}
structure PD (X : Cx) (cA : Nat → Addr) (W : XK) (pos : Pos) (ks : List (Option Expr)) (vs : List Expr) (r : MP) : Prop where
  ex : ∃ trs, PPs X pos ks vs trs ∧ PairsOk X.K cA W trs r
theorem pnil : PD X cA W pos [] [] nilP := ⟨[], pps_nil, fun σ H Q h => by
  obtain ⟨ρ, S, l, hS, hl, h⟩ := h
  exact After.same (rep := rPr X.K) h hS rfl⟩
theorem pcons {k v : Expr} {ks : List (Option Expr)} {vs : List Expr} {mk mv : ME} {r : MP} (hk : PE X k (tE X.K cA W mk)) (hv : PE X v (tE X.K cA W mv)) (hr : PD X cA W pos ks vs r) : PD X cA W pos (some k :: ks) (v :: vs) (consP mk mv r) := by
  obtain ⟨trs, h1, h2⟩ := hr.ex
  refine ⟨_, pps_cons hk hv h1, fun σ H Q h => ?_⟩
  refine tG.imp (bind3 (rep1 := rV X.K) (rep2 := rV X.K) (rep3 := rPr X.K) st_Pr mo_V mo_V h) fun x H1 h => tG.imp h fun y H2 h => h2 _ _ _ (tG.imp h fun ps H3 h => ?_)
  obtain ⟨ρ, S, a, b, c, hS, r1, r2, r3, h⟩ := h
  exact After.same (rep := rPr X.K) h hS ⟨x, y, ps, rfl, r1, r2, r3⟩
theorem keys_of : ∀ {ds : List (D × D)} {ps : List (V × V)} {kvs : List (Key × D)}, keysO ds = some kvs → RepPr K ρ H ds ps → ∃ qs : List (Key × V), ps = qs.map (fun kv => (kV kv.1, kv.2)) ∧ RepP K ρ H kvs qs
  | [], ps, kvs, h, r => by cases h; exact ⟨[], r, by unfold RepP; rfl⟩
  | (a, b) :: ds, ps, kvs, h, r => by
    obtain ⟨x, y, q, ep, h1, h2, h3⟩ := r
    unfold keysO mapO at h
    split at h
    · rename_i kv rest e1 e2
      cases h
      obtain ⟨k, ek, rfl⟩ := Option.map_eq_some_iff.mp e1
      obtain ⟨qs, e3, h4⟩ := keys_of e2 h3
      have := key_rep ek h1
      subst this
      exact ⟨(k, y) :: qs, by rw [ep, e3]; rfl, y, qs, rfl, h2, h4⟩
    · cases h
theorem merge_rep : ∀ {more : List (Key × D)} {ms : List (Key × V)} {kvs : List (Key × D)} {ps : List (Key × V)}, RepP K ρ H more ms → RepP K ρ H kvs ps → RepP K ρ H (mergeD kvs more) (mergeK ps ms)
  | [], ms, kvs, ps, h, r => by unfold RepP at h; rw [h]; exact r
  | (k, d) :: more, ms, kvs, ps, h, r => by
    unfold RepP at h
    obtain ⟨v, q, rfl, h1, h2⟩ := h
    show RepP K ρ H (mergeD (dPut kvs k d) more) (mergeK (putK ps k v) q)
    exact merge_rep h2 (put_rep h1 r)
theorem mdict {ks : List (Option Expr)} {vs : List Expr} {r : MP} (h : PD X cA W pos ks vs r) (hall : ks.all (·.isSome) = true := by rfl) (hl : ks.length = vs.length := by rfl) (h0 : ks ≠ [] := by exact fun z => by cases z) (h15 : ks.length ≤ 15 := by decide) :
    PE X (.Dict ks vs pos) (tE X.K cA W (dictE r)) := by
  obtain ⟨trs, h1, h2⟩ := h.ex
  refine (pe_disp h1 hall hl h0 h15).imp fun σ H Q h => ?_
  intro p hp
  obtain ⟨ρ, S, l, hS, hl, h⟩ := h
  have E1 : Ext ρ H (ρ ++ [p]) (upd H p (.dK [])) := Ext.alloc hp
  have hS1 : Reps X.K cA (ρ ++ [p]) (upd H p (.dK [])) (S ++ [.dct []]) := (hS.new hp).push (hS.free hp) ⟨[], upd_same, by unfold RepP; rfl⟩
  refine h2 _ _ _ ⟨ρ ++ [p], S ++ [.dct []], l, hS1, hl.ext E1, (After.step (rep := rPr X.K) h E1).imp fun ps H2 hq => ?_⟩
  obtain ⟨ρ2, S2, ds, e2, hS2, hr, h⟩ := hq
  split at h
  · rename_i kvs ek
    split at h
    · rename_i h15'
      split at h
      · rename_i e3
        have hrp : ρ2[S.length]? = some p := by
          obtain ⟨r, er, _⟩ := e2.pre
          rw [er, List.getElem?_append_left (by rw [List.length_append, hS.len]; exact Nat.lt_succ_self _), ← hS.len, List.getElem?_append_right (Nat.le_refl _)]
          simp
        obtain ⟨ps0, h3, h4⟩ := hS2.at_ _ _ p (dctAt_some e3) hrp
        unfold RepP at h4
        subst h4
        obtain ⟨qs, eq, h5⟩ := keys_of ek hr
        refine ⟨h3, qs, eq, by rw [← c_lenV.len_repP h5] at h15'; exact h15', ?_⟩
        have EW : Ext ρ2 H2 ρ2 (upd H2 p (.dK (mergeK [] qs))) := Ext.write hrp h3 True.intro
        refine h ρ2 _ _ ((E1.trans e2).trans EW) (hS2.write hrp h3 True.intro ⟨_, upd_same, ?_⟩) ?_
        · exact (merge_rep h5 (by unfold RepP; rfl)).ext EW
        · show RepV X.K ρ2 _ (.ref S.length) (.ref p)
          unfold RepV
          exact ⟨p, hrp, rfl⟩
      · exact h.elim
    · exact h.elim
  · exact h.elim
theorem mdict0 : PE X (.Dict [] [] pos) (tE X.K cA W dict0) := pe_dnewK.imp fun σ H Q h => by
  obtain ⟨ρ, S, l, hS, hl, h⟩ := h
  exact fun p hp => After.new h hS hp ⟨[], upd_same, by unfold RepP; rfl⟩
end

/-! ### two new lists -/
def eqLs (S : Store) (xs ys : List D) : Option Bool := match mapO (toPy S 63) xs, mapO (toPy S 63) ys with
  | some ps, some qs => if SeqAt.shaped (.list ps) = true ∧ SeqAt.shaped (.list qs) = true then some (PyData.eqv (.list ps) (.list qs)) else none
  | _, _ => none
def eqN (m n : MA) : MB := fun l S => (m l S).bind fun xs S1 => (n l S1).bind fun ys S2 => match eqLs S2 xs ys with
  | some b => .ok b S2
  | none => .bad
def neN (m n : MA) : MB := fun l S => (m l S).bind fun xs S1 => (n l S1).bind fun ys S2 => match eqLs S2 xs ys with
  | some b => .ok (!b) S2
  | none => .bad
section
variable {X : Cx} {cA : Nat → Addr} {W : XK} {pos : Pos} {a b : Expr} {m n : MA}
theorem eqLs_rep {K : PySem.W.Frag} {ρ : List Addr} {H : Hp} {S : Store} {H0 H1 : Hp} (hS : Reps K cA ρ H S) {xs ys : List D} {x y : V} {t : Bool} (h1 : rNew K H0 ρ H xs x) (h2 : rNew K H1 ρ H ys y) (h : eqLs S xs ys = some t) :
    ∃ p q, Dp K H x p ∧ Dp K H y q ∧ SeqAt.shaped p = true ∧ SeqAt.shaped q = true ∧ t = PyData.eqv p q := by
  unfold eqLs at h
  split at h
  · rename_i ps qs e1 e2
    split at h
    · rename_i hz
      cases h
      obtain ⟨a, vs, rfl, _, _, h3, h4⟩ := h1
      obtain ⟨b, ws, rfl, _, _, h5, h6⟩ := h2
      exact ⟨.list ps, .list qs, .lst (SqL.of h3) (toPy_rep.all hS _ _ _ _ e1 h4), .lst (SqL.of h5) (toPy_rep.all hS _ _ _ _ e2 h6), hz.1, hz.2, rfl⟩
    · cases h
  · cases h
theorem eqN_of {f : Option Bool → Option Bool} {g : Bool → Bool} {σ : L2.St} {H : Hp} {Q : Bool → Hp → Prop} (h : tT X.K cA W (fun l S => (m l S).bind fun xs S1 => (n l S1).bind fun ys S2 => match eqLs S2 xs ys with
    | some b => .ok (g b) S2
    | none => .bad) σ H Q) : tNw X.K cA W m σ H fun x H1 => tNw X.K cA W n σ H1 fun y H2 => ∃ p q, Dp X.K H2 x p ∧ Dp X.K H2 y q ∧ SeqAt.shaped p = true ∧ SeqAt.shaped q = true ∧ Q (g (PyData.eqv p q)) H2 :=
  tG.imp (bind2 (rep1 := rNew X.K) (rep2 := rNew X.K) st_Id mo_New h) fun x H1 h => tG.imp h fun y H2 h => by
    obtain ⟨ρ, S, xs, ys, hS, h1, h2, h⟩ := h
    split at h
    · rename_i t et
      obtain ⟨p, q, k1, k2, k3, k4, rfl⟩ := eqLs_rep hS h1 h2 et
      exact ⟨p, q, k1, k2, k3, k4, After.same (rep := rId) h hS rfl⟩
    · exact h.elim
theorem meqN (hu : X.A.units + 64 < cLine) (ha : PE X a (tNw X.K cA W m)) (hb : PE X b (tNw X.K cA W n)) : PE X (.Compare a [.Eq] [b] pos) (tE X.K cA W (toV (eqN m n))) :=
  (pe_cmpR (op_eqD hu) ha hb (nomark _)).imp fun σ H Q h => eqN_of (f := id) (g := id) (tE_toV h)
theorem mneN (hu : X.A.units + 64 < cLine) (ha : PE X a (tNw X.K cA W m)) (hb : PE X b (tNw X.K cA W n)) : PE X (.Compare a [.NotEq] [b] pos) (tE X.K cA W (toV (neN m n))) :=
  (pe_cmpR (op_neD hu) ha hb (nomark _)).imp fun σ H Q h => eqN_of (f := id) (g := not) (tE_toV h)
theorem meqNT (hu : X.A.units + 64 < cLine) (ha : PE X a (tNw X.K cA W m)) (hb : PE X b (tNw X.K cA W n)) : PT X (.Compare a [.Eq] [b] pos) (tT X.K cA W (eqN m n)) :=
  (pt_cmpR (op_eqD hu) ha hb (nomark _)).imp fun σ H Q h => tG.imp (eqN_of (f := id) (g := id) h) fun x H1 h => tG.imp h fun y H2 ⟨p, q, k1, k2, k3, k4, k5⟩ => ⟨p, q, k1, k2, k3, k4, _, rfl, k5⟩
theorem mneNT (hu : X.A.units + 64 < cLine) (ha : PE X a (tNw X.K cA W m)) (hb : PE X b (tNw X.K cA W n)) : PT X (.Compare a [.NotEq] [b] pos) (tT X.K cA W (neN m n)) :=
  (pt_cmpR (op_neD hu) ha hb (nomark _)).imp fun σ H Q h => tG.imp (eqN_of (f := id) (g := not) h) fun x H1 h => tG.imp h fun y H2 ⟨p, q, k1, k2, k3, k4, k5⟩ => ⟨p, q, k1, k2, k3, k4, _, rfl, k5⟩
end

/-! ### list(range(..)) -/
def rngO (a b : Int) (S : Store) : R (List D) := if -(2 ^ 62) ≤ a ∧ a < 2 ^ 62 ∧ -(2 ^ 62) ≤ b ∧ b < 2 ^ 62 ∧ (b - a).toNat ≤ 2 ^ 24 then .ok (intsFrom a (b - a).toNat) S else .bad
def rngN1 (m : ME) : MA := fun l S => (m l S).bind fun d S1 => match intO d with
  | some b => rngO 0 b S1
  | none => .bad
def rngN2 (m n : ME) : MA := fun l S => (m l S).bind fun d S1 => (n l S1).bind fun e S2 => match intO d, intO e with
  | some a, some b => rngO a b S2
  | _, _ => .bad
section
variable {X : Cx} {cA : Nat → Addr} {W : XK} {pos p0 p1 p2 : Pos} {a b : Expr} {m n : ME}
theorem intO_rep {K : PySem.W.Frag} {ρ : List Addr} {H : Hp} {d : D} {v : V} {i : Int} (h : intO d = some i) (r : RepV K ρ H d v) : v = .int i := by
  cases d with
  | int j => cases h; unfold RepV at r; exact r
  | _ => cases h
theorem rg_rep {K : PySem.W.Frag} {ρ : List Addr} {H : Hp} {a b : Int} : RepVs K ρ H (intsFrom a (b - a).toNat) (rgV a b) := by
  have e1 : intsFrom a (b - a).toNat = ((List.range (b - a).toNat).map fun i => a + ((i : Nat) : Int)).map D.int := by unfold intsFrom; rw [List.map_map]; rfl
  have e2 : rgV a b = ((List.range (b - a).toNat).map fun i => a + ((i : Nat) : Int)).map V.int := by unfold rgV; rw [List.map_map]; rfl
  rw [e1, e2]
  exact RepVs.of_ints
theorem rng_of {ρ : List Addr} {H : Hp} {S : Store} {i j : Int} {Q : V → Hp → Prop} (hS : Reps X.K cA ρ H S) (h : After X.K cA W ρ H (rNew X.K) (rngO i j S) Q) : RgOk i j ∧ ∀ q, H q = none → Q (.ref q) (upd H q (.lst (rgV i j))) := by
  unfold rngO at h
  split at h
  · rename_i hz
    exact ⟨hz, fun q hq => After.fresh h hS hq rg_rep⟩
  · exact h.elim
theorem mrngN1 (hc : X.calm = true) (hg : Gl X "list") (hm : X.mg "list" = none) (hg2 : Gl X "range") (hm2 : X.mg "range" = none) (ha : PE X a (tE X.K cA W m)) (na : starEach [a] X.env = (false, eval a X.env) :: starEach [] X.env := by rfl)
    (nb : starEach [(.Call (.Name "range" p1) [a] [] p2 : Expr)] X.env = (false, eval (.Call (.Name "range" p1) [a] [] p2) X.env) :: starEach [] X.env := by rfl) : PE X (.Call (.Name "list" p0) [.Call (.Name "range" p1) [a] [] p2] [] pos) (tNw X.K cA W (rngN1 m)) :=
  (pe_listRg hc hg hm (prg_1 hg2 hm2 ha na) nb).imp fun σ H Q h => (bind1 (rep1 := rV X.K) st_New h).imp fun v H1 h => by
    obtain ⟨ρ, S, d, hS, hr, h⟩ := h
    split at h
    · rename_i i e
      exact ⟨i, intO_rep e hr, rng_of hS h⟩
    · exact h.elim
theorem mrngN2 (hc : X.calm = true) (hg : Gl X "list") (hm : X.mg "list" = none) (hg2 : Gl X "range") (hm2 : X.mg "range" = none) (ha : PE X a (tE X.K cA W m)) (hb : PE X b (tE X.K cA W n)) (na : starEach [a, b] X.env = (false, eval a X.env) :: starEach [b] X.env := by rfl) (nc : starEach [b] X.env = (false, eval b X.env) :: starEach [] X.env := by rfl)
    (nb : starEach [(.Call (.Name "range" p1) [a, b] [] p2 : Expr)] X.env = (false, eval (.Call (.Name "range" p1) [a, b] [] p2) X.env) :: starEach [] X.env := by rfl) (hp : (backTo p2 (starEach [b] X.env)).any (·.1) = false := by rfl) : PE X (.Call (.Name "list" p0) [.Call (.Name "range" p1) [a, b] [] p2] [] pos) (tNw X.K cA W (rngN2 m n)) :=
  (pe_listRg hc hg hm (prg_2 hg2 hm2 ha hb na nc hp) nb).imp fun σ H Q h => tG.imp (bind2 (rep1 := rV X.K) (rep2 := rV X.K) st_New mo_V h) fun v H1 h => tG.imp h fun u H2 h => by
    obtain ⟨ρ, S, d, e, hS, hr, hr2, h⟩ := h
    split at h
    · rename_i i j e1 e2
      exact ⟨i, j, intO_rep e1 hr, intO_rep e2 hr2, rng_of hS h⟩
    · exact h.elim
end
end ML

set_option Elab.async false
set_option linter.all false
set_option maxRecDepth 100000
set_option autoImplicit false
/-! ML12: raise, try .. except C as e, isinstance of what is caught. -/
namespace ML
open PySem PySem.Spec L2

/-! ### what is not covered (and not reached) -/
def badS : MS := fun _ _ => .bad
theorem sbad {X : Cx} {cA : Nat → Addr} {W : XK} {st : Stmt} : PS X st (tS X.K cA W badS) := ⟨fun pins s σ H E I h => by obtain ⟨ρ, S, l, _, _, h⟩ := h; exact h.elim⟩

/-! ### raise -/
def raiseS (k : Nat) : MS := fun _ S => .ex ⟨k, []⟩ S
/-- a class of the text that is an exception, made with a text -/
structure ExcK (K : PySem.W.Frag) (mg : Str → Option Value) (x : Str) (C : Addr) : Prop where
  g : mg x = some (.ref C)
  q : PySem.W.excIn K C [.type "ValueError", .type "Exception", .type "BaseException", .type "object"] "ValueError.__new__" = true
  k : PySem.W.keepIn K (.ref C) = true
  s : PySem.W.subIn K (.ref C) (.type "BaseException") = some true
  t : PySem.W.typeIn K (.ref C) = some (.type "type")
section
variable {X : Cx} {cA : Nat → Addr} {W : XK} {K : PySem.W.Frag}
theorem sraise {x m : Str} {j k : Nat} {p p2 pos pos2 : Pos} (E : ExcK X.K X.mg x (cA k)) (tk : Takes X (fun cls d _ H => W cls d H)) (hc : X.calm = true) (hg : Gl X x) (hdb : (x == ("__debug__" : Str)) = false := by decide) :
    PS X (.Raise (some (.Call (.Name x p) [.Constant (.str m) j p2] [] pos)) none pos2) (tS X.K cA W (raiseS k)) :=
  (ps_raise (W := fun cls d _ H => W cls d H) hc tk (pmk_own PySem.F.excBase_ValueError E.q E.g E.k (raises_own E.s E.t) hg hdb)).imp fun D σ H h => by
    obtain ⟨ρ, S, l, hS, hl, h⟩ := h
    exact h ρ H _ _ (Ext.refl _ _) hS ⟨rfl, .inl ⟨rfl, rfl⟩⟩
end

/-! ### in a try's body: the wish may look at the slots -/
def tX (K : PySem.W.Frag) (cA : Nat → Addr) (W : WX) (m : MS) : TS := fun D σ H => tS K cA (L2.WE W σ) m D σ H
def tEX (K : PySem.W.Frag) (cA : Nat → Addr) (W : WX) (m : ME) : TE := fun σ H Q => tE K cA (L2.WE W σ) m σ H Q
section
variable {X : Cx} {cA : Nat → Addr} {W : WX} {p pos : Pos} {x : Str} {e c : Expr} {es : List Expr} {m : MA} {me : ME} {k j n : Nat} {G : List D → Store → R D} {st : Stmt} {rest : List Stmt} {ma mb : MS} {q : MB}
theorem xof (h : ∀ W0 : XK, PE X e (tE X.K cA W0 me)) : PE X e (tEX X.K cA W me) := ⟨fun pins s σ H Q I q => (h (L2.WE W σ)).run pins s σ H Q I q⟩
theorem xcall (F : FnM X.prog X.w X.K X.mg X.base cA k x n G) (hk : k ≤ j) (hr : Room j X.A) (tk : Takes X W) (hg : Gl X x) (ha : ∀ W0 : XK, PA X (e :: es) (tAs X.K cA W0 m)) (hdb : (x == ("__debug__" : Str)) = false := by decide)
    (he : starEach (e :: es) X.env = (false, eval e X.env) :: starEach es X.env := by rfl) (hpl : (backTo pos (starEach es X.env)).any (·.1) = false := by rfl) : PE X (.Call (.Name x p) (e :: es) [] pos) (tEX X.K cA W (callE n G m)) := by
  obtain ⟨f, fd, ps, hm, hkp, hb, FF⟩ := F.ex
  have hA : PA X (e :: es) (fun σ H Q => tAs X.K cA (L2.WE W σ) m σ H Q) := ⟨fun pos pins s σ H Q I q => (ha (L2.WE W σ)).run pos pins s σ H Q I q⟩
  exact (pe_callS FF (hr.mono hk) hg hm hkp hb (fun σ => passAt tk σ) hA hdb he hpl).imp fun σ H Q h => call_of h
theorem xexpr (he : PE X e (tEX X.K cA W me)) (hs : swapsWith e none pos.line X.env = pure false := by rfl) : PS X (.Expr e pos) (tX X.K cA W (exprS me)) :=
  (ps_expr he hs).imp fun E σ H h => (after_L (W := L2.WE W σ) (rep := rV X.K) h).imp fun v H1 h => by
    obtain ⟨ρ, S, l, d, hS, hl, _, h⟩ := h
    exact After.same (b := (FlV.nx, σ)) h hS ⟨hl, trivial⟩
theorem xret (he : PE X e (tEX X.K cA W me)) : PS X (.Return (some e) pos) (tX X.K cA W (retS me)) :=
  (ps_ret he).imp fun E σ H h => (after_L (W := L2.WE W σ) (rep := rV X.K) h).imp fun v H1 h => by
    obtain ⟨ρ, S, l, d, hS, hl, hr, h⟩ := h
    exact After.same (b := (FlV.rt v, σ)) h hS ⟨hl, hr⟩
theorem xone (h1 : PS X st (tX X.K cA W ma)) : PSs X [st] (tX X.K cA W ma) := pss_one h1
theorem xif {a b : List Stmt} (hc : ∀ W0 : XK, PT X c (tT X.K cA W0 q)) (ha : PSs X a (tX X.K cA W ma)) (hb : PSs X b (tX X.K cA W mb)) : PS X (.If c a b pos) (tX X.K cA W (ifS q ma mb)) := by
  have hC : PT X c (fun σ H Q => tT X.K cA (L2.WE W σ) q σ H Q) := ⟨fun pins s σ H Q I q => (hc (L2.WE W σ)).run pins s σ H Q I q⟩
  exact (ps_if hC ha hb).imp fun E σ H h => (after_L (W := L2.WE W σ) (rep := rId) h).imp fun t H1 h => by
    obtain ⟨ρ, S, l, d, hS, hl, hr, h⟩ := h
    subst hr
    cases d with
    | true => exact ⟨ρ, S, l, hS, hl, h⟩
    | false => exact ⟨ρ, S, l, hS, hl, h⟩
end

/-! ### try .. except C as e -/
def goneS (i : Nat) (r : R (Fl × Loc)) : R (Fl × Loc) := r.bind fun p S => .ok (p.1, p.2.set i none) S
open Classical in
noncomputable def same {α : Type} (f : Addr → R α) : R α := if h : ∃ r, ∀ a, f a = r then h.choose else .bad
theorem same_of {α : Type} {f : Addr → R α} {r : R α} (h : ∀ a, f a = r) : same f = r := by
  unfold same
  have e : ∃ r, ∀ a, f a = r := ⟨r, h⟩
  rw [dif_pos e]
  exact (e.choose_spec 0).symm.trans (h 0)
theorem same_at {α : Type} {f : Addr → R α} (a : Addr) : same f = f a ∨ same f = .bad := by
  unfold same
  split
  · rename_i h
    exact .inl (h.choose_spec a).symm
  · exact .inr rfl
noncomputable def catchS (hit : Nat → Option Bool) (i : Nat) (mb : MS) (mh : Addr → Exn → MS) : MS := fun l S => match mb l S with
  | .ok p S1 => .ok p S1
  | .ex x S1 => match hit x.c with
    | some true => same fun a => (goneS i (mh a x (l.set i (some (.exn a))) S1)).noex
    | some false => .ex x S1
    | none => .bad
  | .bad => .bad
def NoX : XK := fun _ _ _ => False
section
variable {K : PySem.W.Frag} {cA : Nat → Addr} {W : XK} {ρ : List Addr} {H : Hp}
theorem RepL.gone {l : Loc} {σ : L2.St} (h : RepL K ρ H l σ) (i : Nat) : RepL K ρ H (l.set i none) (σ.set i none) := by
  refine ⟨by rw [List.length_set, List.length_set]; exact h.len, fun j e hj => ?_⟩
  by_cases q : i = j
  · subst q
    have hi : i < l.length := by
      have := (List.getElem?_eq_some_iff.mp hj).1
      rwa [List.length_set] at this
    rw [List.getElem?_set_self hi] at hj
    cases hj
  · rw [List.getElem?_set_ne q] at hj
    obtain ⟨w, hw, r⟩ := h.at_ j e hj
    exact ⟨w, by rw [List.getElem?_set_ne q]; exact hw, r⟩
theorem gone_of {i : Nat} {r : R (Fl × Loc)} {D : Ends} (h : After K cA W ρ H (rS K) (goneS i r).noex (endQ D)) :
    After K cA NoX ρ H (rS K) r (endQ { nx := fun σ' H' => D.nx (σ'.set i none) H', rt := D.rt, bk := fun σ' H' => D.bk (σ'.set i none) H', ct := fun σ' H' => D.ct (σ'.set i none) H' }) := by
  cases r with
  | ok p S =>
    intro ρ' H' b e hs hr
    obtain ⟨hl, hf⟩ := hr
    obtain ⟨f, l⟩ := p
    obtain ⟨g, σ⟩ := b
    cases f with
    | nx => cases g with
      | nx => exact h ρ' H' (FlV.nx, σ.set i none) e hs ⟨hl.gone i, trivial⟩
      | _ => exact hf.elim
    | rt d => cases g with
      | rt v => exact h ρ' H' (FlV.rt v, σ.set i none) e hs ⟨hl.gone i, hf⟩
      | _ => exact hf.elim
    | bk => cases g with
      | bk => exact h ρ' H' (FlV.bk, σ.set i none) e hs ⟨hl.gone i, trivial⟩
      | _ => exact hf.elim
    | ct => cases g with
      | ct => exact h ρ' H' (FlV.ct, σ.set i none) e hs ⟨hl.gone i, trivial⟩
      | _ => exact hf.elim
  | ex x S => exact h.elim
  | bad => exact h.elim
variable {X : Cx} {x n : Str} {c : Value} {i : Nat} {body suite : List Stmt} {b₀ : Stmt} {np pos pos' : Pos} {mb : MS} {mh : Addr → Exn → MS} {hit : Nat → Option Bool}
theorem stry (hh : ∀ k b, hit k = some b → PySem.W.exmOne X.K (.ref (cA k)) c = some b) (hN : X.N.Nodup) (hi : X.N[i]? = some n) (hc : Names X x c) (tk : Takes X (fun cls d _ H => W cls d H))
    (hb : ∀ (W' : WX) (pn : List (Addr × Obj)) (xe : Value → Shared → Prop), Takes (X.tr pn xe) W' → PassesOwn (model X.prog X.w) X.A X.env xe → PSs (X.tr pn xe) body (tX X.K cA W' mb))
    (hsu : ∀ (a : Addr) (oe : Obj) (pn : List (Addr × Obj)) (z : Exn) (d : Option Addr), Zc (.ref (cA z.c)) d oe → (z.fs = [] → d = none) → (∃ vs, oe.data = .fields vs) → PSs (X.suite a ((a, oe) :: pn)) (b₀ :: suite) (tS X.K cA NoX (mh a z)))
    (hs : X.stack = X.env :: X.outer := by rfl) (hf : X.env.frame = some X.env.locals := by rfl) (hln : X.env.kindOf n = some .local := by rfl) :
    PS X (.Try body [.ExceptHandler (some (.Name x np)) (some n) (b₀ :: suite) pos'] [] [] pos) (tS X.K cA W (catchS hit i mb mh)) := by
  refine (ps_try_as (Wout := fun cls d _ H => W cls d H) (tb := fun W' => tX X.K cA W' mb) (ts := fun a cls d D σ H => ∃ z : Exn, cls = .ref (cA z.c) ∧ (z.fs = [] → d = none) ∧ tS X.K cA NoX (mh a z) D σ H) hs hf hN hi hln hc tk hb
    (fun a oe cls d pn hz hv => ⟨fun pins s σ H D I h => ?_⟩)).imp fun D σ H h => ?_
  · obtain ⟨z, rfl, h1, h2⟩ := h
    exact (hsu a oe pn z d hz h1 hv).run pins s σ H D I h2
  · obtain ⟨ρ, S, l, hS, hl, h⟩ := h
    refine ⟨ρ, S, l, hS, hl, ?_⟩
    unfold catchS at h
    generalize mb l S = r at h
    cases r with
    | ok p S1 => exact h
    | bad => exact h.elim
    | ex z S1 =>
      intro ρ' H' cls d e hS' hx
      obtain ⟨rfl, hx⟩ := hx
      simp only at h
      cases eh : hit z.c with
      | none => rw [eh] at h; exact h.elim
      | some b =>
        rw [eh] at h
        cases b with
        | false =>
          refine ⟨false, hh _ _ eh, fun q => ?_, fun _ => h ρ' H' _ _ e hS' ⟨rfl, hx⟩⟩
          cases q
        | true =>
          refine ⟨true, hh _ _ eh, fun _ a ha => ⟨z, rfl, fun q => ?_, ?_⟩, fun q => nomatch q⟩
          · rcases hx with ⟨_, h2⟩ | ⟨h2, _⟩
            · exact h2
            · exact absurd q h2
          · refine ⟨ρ', S1, l.set i (some (.exn a)), hS', (hl.ext e).set (by unfold RepV; rfl) i, ?_⟩
            rcases same_at (f := fun a => (goneS i (mh a z (l.set i (some (.exn a))) S1)).noex) a with q | q
            · have h := After.back st_S e h
              simp only at h
              rw [q] at h
              exact gone_of h
            · simp only at h
              rw [q] at h
              exact h.elim
end
/-! ### isinstance of what is caught -/
inductive CN where
  | own (j : Nat) | ty (n : String)
def CN.val (cA : Nat → Addr) : CN → Value
  | .own j => .ref (cA j)
  | .ty n => .type n
def CN.v (cA : Nat → Addr) : CN → V
  | .own j => .ref (cA j)
  | .ty n => .ty n
theorem CN.clsv {cA : Nat → Addr} : ∀ n : CN, ClsV (n.v cA) (n.val cA)
  | .own j => .own _
  | .ty n => .ty _
theorem CN.all {cA : Nat → Addr} : ∀ ns : List CN, Paired ClsV (ns.map (CN.v cA)) (ns.map (CN.val cA))
  | [] => .nil
  | n :: ns => .cons n.clsv (CN.all ns)
def IsFacts (K : PySem.W.Frag) (cA : Nat → Addr) (kis : Nat → CN → Option Bool) : Prop := ∀ c n b, kis c n = some b → ExcC K (cA c) ∧ PySem.W.kitOne K (.ref (cA c)) (n.val cA) = some b
def kisX (kis : Nat → CN → Option Bool) (z : Exn) (n : CN) : Option Bool := match z.fs with
  | [] => kis z.c n
  | _ => none
def kisA (kis : Nat → CN → Option Bool) (z : Exn) : List CN → Option Bool
  | [] => some false
  | n :: r => match kisX kis z n with
    | some true => some true
    | some false => kisA kis z r
    | none => none
def isX (ans : Option Bool) (a : Addr) (m : ME) : MB := match ans with
  | none => fun _ _ => .bad
  | some t => fun l S => (m l S).bind fun d S1 => match d with
    | .exn b => if b = a then .ok t S1 else .bad
    | _ => .bad
theorem kit_own {K : PySem.W.Frag} {C D : Addr} {b : Bool} (h : PySem.W.subIn K (.ref D) (.ref C) = some b) (hd : PySem.W.hasDictIn K C = true) (ht : PySem.W.typeIn K (.ref C) = some (.type "type")) (hs : PySem.W.subIn K (.ref D) (.ref D) = some true) : PySem.W.kitOne K (.ref D) (.ref C) = some b := by
  unfold PySem.W.kitOne
  by_cases q : D = C
  · subst q
    rw [hs] at h
    rw [if_pos (beq_self_eq_true _)]
    exact h
  · rw [if_neg (fun z => q (Value.ref.inj (beq_iff_eq.mp z)))]
    obtain ⟨cd, hc, _⟩ := PySem.W.any_some hd
    show (if ((PySem.W.clsIn K C).isSome && PySem.W.typeIn K (.ref C) == some (.type "type")) = true then PySem.W.subIn K (.ref D) (.ref C) else none) = some b
    rw [hc, ht, if_pos (by rw [Option.isSome_some, Bool.true_and]; exact beq_self_eq_true _)]
    exact h
theorem kit_bt {K : PySem.W.Frag} {D : Addr} {T : String} {b : Bool} (h : PySem.W.subIn K (.ref D) (.type T) = some b) (hm : PySem.W.kitMeta T = true) : PySem.W.kitOne K (.ref D) (.type T) = some b := by
  unfold PySem.W.kitOne
  have ne : ¬ (Value.ref D == Value.type T) = true := fun z => by
    have := beq_iff_eq.mp z
    cases this
  rw [if_neg ne]
  show (if PySem.W.kitMeta T = true then PySem.W.subIn K (.ref D) (.type T) else none) = some b
  rw [if_pos hm]
  exact h
section
variable {X : Cx} {cA : Nat → Addr} {W : XK} {K : PySem.W.Frag} {kis : Nat → CN → Option Bool} {z : Exn}
theorem kisX_of {n : CN} {b : Bool} (F : IsFacts K cA kis) (h : kisX kis z n = some b) : z.fs = [] ∧ ExcC K (cA z.c) ∧ PySem.W.kitOne K (.ref (cA z.c)) (n.val cA) = some b := by
  unfold kisX at h
  split at h
  · rename_i e; exact ⟨e, F _ _ _ h⟩
  · cases h
theorem kisA_of (F : IsFacts K cA kis) : ∀ {ns : List CN} {b : Bool}, kisA kis z ns = some b → PySem.W.kitAny K (.ref (cA z.c)) (ns.map (CN.val cA)) = some b
  | [], b, h => h
  | n :: ns, b, h => by
    unfold kisA at h
    show (match PySem.W.kitOne K (.ref (cA z.c)) (n.val cA) with
      | some true => some true
      | some false => PySem.W.kitAny K (.ref (cA z.c)) (ns.map (CN.val cA))
      | none => none) = some b
    split at h
    · rename_i e
      rw [(kisX_of F e).2.2]
      exact h
    · rename_i e
      rw [(kisX_of F e).2.2]
      exact kisA_of F h
    · cases h
theorem kisA_ex (F : IsFacts K cA kis) {n : CN} {ns : List CN} {b : Bool} (h : kisA kis z (n :: ns) = some b) : z.fs = [] ∧ ExcC K (cA z.c) := by
  unfold kisA at h
  split at h
  · rename_i e; exact ⟨(kisX_of F e).1, (kisX_of F e).2.1⟩
  · rename_i e; exact ⟨(kisX_of F e).1, (kisX_of F e).2.1⟩
  · cases h
/-- the names of classes as they stand -/
theorem cown {x : Str} {j : Nat} {p : Pos} (hm : X.mg x = some (.ref (cA j))) (hg : Gl X x) (hd : (x == ("__debug__" : Str)) = false := by decide) : PE X (.Name x p) (tC ((CN.own j).v cA)) := pe_glob (v := .ref (cA j)) hg hm rfl hd
theorem cty {x : Str} {n : String} {p : Pos} (hm : X.mg x = none) (hv : bootBuiltins x = some (.type n)) (hg : Gl X x) (hn : x ≠ "__name__" := by decide) (hd : (x == ("__debug__" : Str)) = false := by decide) : PE X (.Name x p) (tC ((CN.ty n).v cA)) := pe_bltn (v := .ty n) hg hm hv rfl hn hd
def tVs (vs : List V) : TA := fun _ H Q => Q vs H
theorem vnil : PA X [] (tVs []) := pa_nil
theorem vcons {e : Expr} {es : List Expr} {v : V} {vs : List V} (h : PE X e (tC v)) (r : PA X es (tVs vs)) (hs : starEach (e :: es) X.env = (false, eval e X.env) :: starEach es X.env := by rfl) : PA X (e :: es) (tVs (v :: vs)) := pa_cons h r hs
variable {a : Addr} {oe : Obj} {pn : List (Addr × Obj)} {d : Option Addr} {pos p0 p1 : Pos} {e : Expr} {m : ME} {x : Str}
theorem misE {ec : Expr} {n : CN} (F : IsFacts X.K cA kis) (hz : Zc (.ref (cA z.c)) d oe) (hd : z.fs = [] → d = none) (hf : ∃ vs, oe.data = .fields vs) (ha : PE (X.suite a ((a, oe) :: pn)) e (tE X.K cA W m)) (hcn : PE (X.suite a ((a, oe) :: pn)) ec (tC (n.v cA)))
    (hg : Gl X "isinstance") (hm : X.mg "isinstance" = none) (hv : bootBuiltins "isinstance" = some (.builtin "isinstance") := by decide +kernel)
    (hs2 : starEach [ec] X.env = (false, eval ec X.env) :: starEach [] X.env := by rfl) (hs : starEach [e, ec] X.env = (false, eval e X.env) :: starEach [ec] X.env := by rfl)
    (hpl : (backTo pos (starEach [ec] X.env)).any (·.1) = false := by rfl) : PE (X.suite a ((a, oe) :: pn)) (.Call (.Name "isinstance" p0) [e, ec] [] pos) (tE X.K cA W (toV (isX (kisX kis z n) a m))) := by
  cases hk : kisX kis z n with
  | none => exact ⟨fun pins s σ H Q I h => by obtain ⟨ρ, S, l, _, _, h⟩ := h; exact h.elim⟩
  | some b =>
    obtain ⟨k1, k2, k3⟩ := kisX_of F hk
    have hz' : Zc (.ref (cA z.c)) none oe := by rw [← hd k1]; exact hz
    exact (pe_callB (call_isE k2 hz' hf) hg hm hv (pa_cons ha (pa_cons hcn pa_nil hs2) hs) (by decide) (by decide) hs hpl).imp fun σ H Q h0 => by
      refine tG.imp (bind1 (rep1 := rV X.K) st_Id (tE_toV h0)) fun v H1 h => ?_
      obtain ⟨ρ, S, dd, hS, hr, h⟩ := h
      split at h
      · rename_i b'
        split at h
        · rename_i e
          subst e
          unfold rV RepV at hr
          subst hr
          exact ⟨n.v cA, n.val cA, b, rfl, fun u r => n.clsv.eq r, k3, After.same (Q := fun b H' => Q (.bl b) H') (rep := rId) h hS rfl⟩
        · exact h.elim
      · exact h.elim
/-- isinstance(e, (c1, ..)), e the exception that the suite holds -/
def rIsET (K : PySem.W.Frag) (D a : Addr) : List V → Hp → VK → Prop := fun xs H Q => ∃ (tp : Addr) (cs : List V) (us : List Value) (b : Bool), xs = [.ref a, .ref tp] ∧ H tp = some (.tup cs) ∧ Paired ClsV cs us ∧ PySem.W.kitAny K (.ref D) us = some b ∧ Q (.bl b) H
theorem call_isET {D : Addr} (C : ExcC X.K D) (hz : Zc (.ref D) none oe) (hf : ∃ vs, oe.data = .fields vs) : CallR (X.suite a ((a, oe) :: pn)) (.builtin "isinstance") (rIsET X.K D a) := by
  intro pins s σ H xs us Q I r h
  obtain ⟨tp, cs, ws, b, rfl, hT, k, e, q⟩ := h
  obtain ⟨u1, u2, rfl, r1, r2⟩ := vals2 r
  cases (show u2 = Value.ref tp from r2)
  cases (show u1 = Value.ref a from r1)
  obtain ⟨hget, _⟩ := I.pin (a, oe) (List.mem_append.mpr (.inl List.mem_cons_self))
  obtain ⟨vs, hv⟩ := hf
  have J : PySem.W.InstAt s.heap a oe D none := by
    obtain ⟨oc, od, oda, osl⟩ := oe
    obtain ⟨h1, h2⟩ := hz
    dsimp only at h1 h2 hv
    subst h1 h2 hv
    exact ⟨hget, rfl, rfl, trivial⟩
  obtain ⟨_, its, rv, o, h1, h2, n, h3⟩ := (show ObjOk X.prog X.w H s.heap tp (.tup cs) from I.hok tp _ hT)
  have e3 := ClsV.all k rv
  subst e3
  obtain ⟨oc, od, dt, sl⟩ := o
  simp only at h2 h3
  subst h2 h3
  exact PySem.W.kia_tup (PySem.W.handS_kitx_exc C.hg C.hk C.hs C.hd C.ha C.hn C.ht C.hm) I.kIn J h1 e (fun z => nomatch z) fun tk => ⟨.bl b, H, I.kept (t' := tk) fun _ _ z => z, rfl, q⟩
theorem misEt {es : List Expr} {k : Nat} {n : CN} {ns : List CN} {p2 : Pos} (F : IsFacts X.K cA kis) (hz : Zc (.ref (cA z.c)) d oe) (hd : z.fs = [] → d = none) (hf : ∃ vs, oe.data = .fields vs) (ha : PE (X.suite a ((a, oe) :: pn)) e (tE X.K cA W m)) (hcn : PA (X.suite a ((a, oe) :: pn)) es (tVs ((n :: ns).map (CN.v cA))))
    (hlen : (n :: ns).length ≤ sizeLine) (hg : Gl X "isinstance") (hm : X.mg "isinstance" = none) (hv : bootBuiltins "isinstance" = some (.builtin "isinstance") := by decide +kernel)
    (hs2 : starEach [(.Tuple es k p2 : Expr)] X.env = (false, eval (.Tuple es k p2) X.env) :: starEach [] X.env := by rfl) (hs : starEach [e, .Tuple es k p2] X.env = (false, eval e X.env) :: starEach [.Tuple es k p2] X.env := by rfl)
    (hpl : (backTo pos (starEach [(.Tuple es k p2 : Expr)] X.env)).any (·.1) = false := by rfl) : PE (X.suite a ((a, oe) :: pn)) (.Call (.Name "isinstance" p0) [e, .Tuple es k p2] [] pos) (tE X.K cA W (toV (isX (kisA kis z (n :: ns)) a m))) := by
  cases hk : kisA kis z (n :: ns) with
  | none => exact ⟨fun pins s σ H Q I h => by obtain ⟨ρ, S, l, _, _, h⟩ := h; exact h.elim⟩
  | some b =>
    obtain ⟨k1, k2⟩ := kisA_ex F hk
    have hz' : Zc (.ref (cA z.c)) none oe := by rw [← hd k1]; exact hz
    exact (pe_callB (call_isET k2 hz' hf) hg hm hv (pa_cons ha (pa_cons (pe_tup hcn) pa_nil hs2) hs) (by decide) (by decide) hs hpl).imp fun σ H Q h0 => by
      refine tG.imp (bind1 (rep1 := rV X.K) st_Id (tE_toV h0)) fun v H1 h => ?_
      obtain ⟨ρ, S, dd, hS, hr, h⟩ := h
      split at h
      · rename_i b'
        split at h
        · rename_i e
          subst e
          unfold rV RepV at hr
          subst hr
          refine ⟨by rw [List.length_map]; exact hlen, fun tp htp => ⟨tp, _, _, b, rfl, upd_same, CN.all (n :: ns), kisA_of F hk, ?_⟩⟩
          exact h ρ _ b (Ext.new htp) (hS.new htp) rfl
        · exact h.elim
      · exact h.elim
end
end ML

set_option Elab.async false
set_option linter.all false
set_option maxRecDepth 100000
set_option autoImplicit false
/-! ML10: the end of a law's row. -/
namespace ML
open PySem PySem.Spec L2
theorem FnM.mk' {P : Program} {w : World} {K : PySem.W.Frag} {mg : Str → Option Value} {base : Heap} {cA : Nat → Addr} {k n : Nat} {x qual : Str} {st : Stmt} {f : Addr} {fd : FuncData} {ps : List Str} {G : List D → Store → R D} (F : Fun K x qual st f fd) (hm : mg x = some (.ref f)) (b : Binds K fd ps []) (ok : FnOk P w K mg base (L2.CX P w) k f fd ps (spM K cA G n)) : FnM P w K mg base cA k x n G := ⟨⟨f, fd, ps, hm, F.kp, b, ok⟩⟩
/-- a law's promise, from what its function tells -/
theorem law_sp {n : Nat} {F : List D → Store → R D} (h : ∀ ns : List Int, ns.length ≤ n → ∃ S', F [.lis (ns.map D.int)] [] = .ok (.bl true) S') {K : PySem.W.Frag} {cA : Nat → Addr} {H : Hp} {a : Addr} {ns : List Int} (hn : ns.length ≤ n) (hO : Only H) (hS : SqL K H a (ns.map V.int)) :
    spM K cA F 1 [.ref a] H (fun v _ => v = .bl true) (fun _ _ _ => False) := by
  obtain ⟨S', e⟩ := h ns hn
  refine ⟨rfl, [], [], [.lis (ns.map D.int)], ⟨rfl, List.nodup_nil, fun n c a h => by simp at h⟩, ?_, ?_⟩
  · refine .cons ?_ .nil
    unfold RepV
    refine ⟨a, ns.map V.int, rfl, ?_, RepVs.of_ints⟩
    rcases hS with (hS | ⟨o, hS⟩) | hS
    · rcases hO a with z | ⟨o, xs, z⟩ <;> (rw [hS] at z; cases z)
    · exact .inl ⟨o, hS⟩
    · exact .inr hS
  · rw [e]
    intro ρ' H' v _ _ hv
    unfold rV RepV at hv
    exact hv
/-- the classes' addresses by number -/
def tabA (l : List Addr) : Nat → Addr := fun n => l.getD n 0
/-- a promise that does not name the classes -/
def spA (K : PySem.W.Frag) (F : List D → Store → R D) (n : Nat) : Sp := fun vs H Q E => ∀ cA : Nat → Addr, spM K cA F n vs H Q E
theorem spA_of {P : Program} {w : World} {K : PySem.W.Frag} {mg : Str → Option Value} {base : Heap} {cA : Nat → Addr} {k n : Nat} {f : Addr} {fd : FuncData} {ps : List Str} {F : List D → Store → R D} {CX : CXT} (h : FnOk P w K mg base CX k f fd ps (spM K cA F n)) : FnOk P w K mg base CX k f fd ps (spA K F n) :=
  ⟨fun vs H Q E q => h.len vs H Q E (q cA), fun A st s H args us vs Q E hr e b r q => h.run A st s H args us vs Q E hr e b r (q cA)⟩
theorem law_spA {n : Nat} {F : List D → Store → R D} (h : ∀ ns : List Int, ns.length ≤ n → ∃ S', F [.lis (ns.map D.int)] [] = .ok (.bl true) S') {K : PySem.W.Frag} {H : Hp} {a : Addr} {ns : List Int} (hn : ns.length ≤ n) (hO : Only H) (hS : SqL K H a (ns.map V.int)) :
    spA K F 1 [.ref a] H (fun v _ => v = .bl true) (fun _ _ _ => False) := fun _ => law_sp h hn hO hS
theorem cx_end {P : Program} {w : World} {H : Hp} {s : Shared} {e : Value} {s' : Shared} (h : L2.CX P w [] H s (fun _ _ _ => False) e s') : False := by
  obtain ⟨_, _, _, _, _, _, _, _, _, _, _, _, z⟩ := h
  exact z
end ML

set_option Elab.async false
set_option linter.all false
set_option maxRecDepth 100000
set_option autoImplicit false
/-! ML11: reckoning with the functions. -/
namespace ML
open PySem PySem.Spec L2

/-- a text of one sign -/
def sgn (c : Nat) : D := .str ⟨#[c]⟩
/-- the signs of a text -/
def cs (x : Str) : List Nat := TL.tl x
@[simp] theorem cs_one (c : Nat) : cs ⟨#[c]⟩ = [c] := (rfl)
theorem cs_of (s : String) : cs (Str.ofString s) = s.toList.map Char.toNat := TL.tl_ofString s
@[simp] theorem cs_app (x y : Str) : cs (x ++ y) = cs x ++ cs y := TL.tl_append x y
@[simp] theorem cs_len (x : Str) : (cs x).length = x.length := (TL.len_tl x).symm
theorem cs_ext {x y : Str} (h : cs x = cs y) : x = y := TL.ext_tl h
theorem cs_join (y : Str) (parts : List Str) : cs (Str.join y parts) = TL.joinL (cs y) (parts.map cs) := TL.tl_join y parts
theorem signs_tl (z : Str) : signsOf z = (cs z).map sgn := rfl
section
variable {m n o : ME} {l : Loc} {S : Store}
@[simp] theorem x_con (d : D) : conE d l S = .ok d S := (rfl)
@[simp] theorem x_var0 (d : D) (r : Loc) : varE 0 (some d :: r) S = .ok d S := (rfl)
@[simp] theorem x_varS (i : Nat) (a : Option D) (r : Loc) : varE (i + 1) (a :: r) S = varE i r S := by simp [varE]
@[simp] theorem x_bin (f : D → D → Store → R D) : binE f m n l S = (m l S).bind fun a S1 => (n l S1).bind (f a) := (rfl)
@[simp] theorem x_un (f : D → Store → R D) : unE f m l S = (m l S).bind f := (rfl)
@[simp] theorem x_cmp (f : D → D → Store → R Bool) : cmpM f m n l S = (m l S).bind fun a S1 => (n l S1).bind (f a) := (rfl)
@[simp] theorem x_toV (m : MB) : toV m l S = (m l S).bind fun b S1 => .ok (.bl b) S1 := (rfl)
@[simp] theorem x_chain (f g : D → D → Store → R Bool) : chainM f g m n o l S = (m l S).bind fun a S1 => (n l S1).bind fun b S2 => (f a b S2).bind fun t S3 => if t = true then (o l S3).bind (g b) else .ok false S3 := (rfl)
@[simp] theorem x_andM (m n : MB) : andM m n l S = (m l S).bind fun b S1 => if b = true then n l S1 else .ok false S1 := (rfl)
@[simp] theorem x_orM (m n : MB) : orM m n l S = (m l S).bind fun b S1 => if b = true then .ok true S1 else n l S1 := (rfl)
@[simp] theorem x_notM (m : MB) : notM m l S = (m l S).bind fun b S1 => .ok (!b) S1 := (rfl)
@[simp] theorem x_isBl (b : Bool) : isBl (.bl b) = some b := (rfl)
@[simp] theorem x_ofV : ofV m l S = (m l S).bind fun d S1 => match isBl d with
  | some b => .ok b S1
  | none => .bad := (rfl)
@[simp] theorem x_andV (p : MB) : andV p n l S = (p l S).bind fun b S1 => if b = true then n l S1 else .ok (.bl false) S1 := (rfl)
@[simp] theorem x_orV (p : MB) : orV p n l S = (p l S).bind fun b S1 => if b = true then .ok (.bl true) S1 else n l S1 := (rfl)
@[simp] theorem x_ifE (c : MB) : ifE c m n l S = (c l S).bind fun b S1 => if b = true then m l S1 else n l S1 := (rfl)
@[simp] theorem x_nilA : nilA l S = .ok [] S := (rfl)
@[simp] theorem x_consA (r : MA) : consA m r l S = (m l S).bind fun d S1 => (r l S1).bind fun ds S2 => .ok (d :: ds) S2 := (rfl)
@[simp] theorem x_tupE (r : MA) : tupE r l S = (r l S).bind fun ds S1 => if ds.length ≤ sizeLine then .ok (.tup ds) S1 else .bad := (rfl)
@[simp] theorem x_lstN (r : MA) : lstN r l S = (r l S).bind fun ds S1 => if ds.length ≤ sizeLine then .ok ds S1 else .bad := (rfl)
@[simp] theorem x_allocE (r : MA) : allocE r l S = (r l S).bind fun ds S1 => newC (.lst ds) S1 := (rfl)
@[simp] theorem x_newL {α : Type} (f : List D → Store → R α) (r : MA) : newL f r l S = (r l S).bind f := (rfl)
@[simp] theorem x_ofL {α : Type} (f : List D → Store → R α) : ofL f m l S = (m l S).bind fun d S1 => match lstOf S1 d with
  | some ds => f ds S1
  | none => .bad := (rfl)
@[simp] theorem x_isE (T : String) : isE T m l S = (m l S).bind fun d S1 => match kindO S1 d with
  | some t => .ok (isKind T t) S1
  | none => .bad := (rfl)
@[simp] theorem x_call (k : Nat) (G : List D → Store → R D) (r : MA) : callE k G r l S = (r l S).bind fun ds S1 => if ds.length = k then G ds S1 else .bad := (rfl)
@[simp] theorem x_slice (lo hi : MO) : sliceE m lo hi l S = (m l S).bind fun d S1 => (lo l S1).bind fun i S2 => (hi l S2).bind (sliceD d i) := (rfl)
@[simp] theorem x_noO : noO l S = .ok none S := (rfl)
@[simp] theorem x_someO : someO m l S = (m l S).bind fun d S1 => match intO d with
  | some i => .ok (some i) S1
  | none => .bad := (rfl)
@[simp] theorem x_intO (i : Int) : intO (.int i) = some i := (rfl)
@[simp] theorem x_strO (i : Str) : strO (.str i) = some i := (rfl)
@[simp] theorem x_fld (cs : List Nat) (f : Str) : fldE cs f m l S = (m l S).bind fun d S1 => match d with
  | .ref n => match insAt S1 n with
    | some (c, fs) => if c ∈ cs then (match fs.lookup f with
      | some x => .ok x S1
      | none => .bad) else .bad
    | none => .bad
  | _ => .bad := (rfl)
@[simp] theorem x_lmE (f : D → List D → Store → R D) (r : MA) : lmE f m r l S = (m l S).bind fun d S1 => if (lstOf S1 d).isSome = true then (r l S1).bind (f d) else .bad := (rfl)
@[simp] theorem x_joinN (r : MA) : joinN m r l S = (m l S).bind fun d S1 => match strO d with
  | some a => (r l S1).bind fun ds S2 => match mapO strO ds with
    | some ys => if (ys.map (·.length)).sum + ys.length * a.length ≤ 16777216 then .ok (.str (Str.join a ys)) S2 else .bad
    | none => .bad
  | none => .bad := (rfl)
@[simp] theorem x_yes : yesM l S = .ok true S := (rfl)
/-! statements -/
@[simp] theorem x_nilS : nilS l S = .ok (.nx, l) S := (rfl)
@[simp] theorem x_seqS (a b : MS) : seqS a b l S = (a l S).bind (thenS b) := (rfl)
@[simp] theorem x_then_nx (b : MS) (l : Loc) : thenS b (.nx, l) S = b l S := (rfl)
@[simp] theorem x_then_rt (b : MS) (d : D) (l : Loc) : thenS b (.rt d, l) S = .ok (.rt d, l) S := (rfl)
@[simp] theorem x_then_bk (b : MS) (l : Loc) : thenS b (.bk, l) S = .ok (.bk, l) S := (rfl)
@[simp] theorem x_then_ct (b : MS) (l : Loc) : thenS b (.ct, l) S = .ok (.ct, l) S := (rfl)
@[simp] theorem x_exprS : exprS m l S = (m l S).bind fun _ S1 => .ok (.nx, l) S1 := (rfl)
@[simp] theorem x_retS : retS m l S = (m l S).bind fun d S1 => .ok (.rt d, l) S1 := (rfl)
@[simp] theorem x_retN : retN l S = .ok (.rt .non, l) S := (rfl)
@[simp] theorem x_ifS (c : MB) (a b : MS) : ifS c a b l S = (c l S).bind fun t S1 => if t = true then a l S1 else b l S1 := (rfl)
@[simp] theorem x_breakS : breakS l S = .ok (.bk, l) S := (rfl)
@[simp] theorem x_contS : contS l S = .ok (.ct, l) S := (rfl)
@[simp] theorem x_setS (i : Nat) : setS i m l S = (m l S).bind fun d S1 => .ok (.nx, l.set i (some d)) S1 := (rfl)
@[simp] theorem x_asgS (t : MT) : asgS t m l S = (m l S).bind fun d S1 => (t d l S1).bind fun l1 S2 => .ok (.nx, l1) S2 := (rfl)
@[simp] theorem x_nameT (i : Nat) (d : D) : nameT i d l S = .ok (l.set i (some d)) S := (rfl)
@[simp] theorem x_subT (d : D) : subT m n d l S = (m l S).bind fun o S1 => (n l S1).bind fun i S2 => match setO S2 o i d with
  | some S3 => .ok l S3
  | none => .bad := (rfl)
@[simp] theorem x_forS (src : Loc → Store → R Sn) (t : MT) (b : MS) : forS src t b l S = (src l S).bind fun p S1 => forL p.2 t b p.1 l S1 := (rfl)
@[simp] theorem x_srcN (r : MA) : srcN r l S = (r l S).bind fun ds S1 => .ok (ds, still) S1 := (rfl)
@[simp] theorem x_srcV : srcV m l S = (m l S).bind srcD := (rfl)
@[simp] theorem x_srcR1 (r : MA) : srcR1 r l S = (r l S).bind rng1 := (rfl)
@[simp] theorem x_srcR2 (r : MA) : srcR2 r l S = (r l S).bind rng2 := (rfl)
@[simp] theorem x_compN (src : Loc → Store → R Sn) (t : Tgt) (c : MB) : compN src t c m l S = (src l S).bind fun p S1 => (compL p.2 t c m (wipeL l t.own) p.1 [] S1).noex := (rfl)
@[simp] theorem x_noex_ok {α : Type} (a : α) (S : Store) : (R.ok a S).noex = .ok a S := (rfl)
@[simp] theorem x_again_nx (b : MS) (l : Loc) : againS b (.nx, l) S = b l S := (rfl)
@[simp] theorem x_again_ct (b : MS) (l : Loc) : againS b (.ct, l) S = b l S := (rfl)
@[simp] theorem x_again_bk (b : MS) (l : Loc) : againS b (.bk, l) S = .ok (.nx, l) S := (rfl)
@[simp] theorem x_again_rt (b : MS) (d : D) (l : Loc) : againS b (.rt d, l) S = .ok (.rt d, l) S := (rfl)
@[simp] theorem x_eqN (r s : MA) : eqN r s l S = (r l S).bind fun xs S1 => (s l S1).bind fun ys S2 => match eqLs S2 xs ys with
  | some b => .ok b S2
  | none => .bad := (rfl)
@[simp] theorem x_neN (r s : MA) : neN r s l S = (r l S).bind fun xs S1 => (s l S1).bind fun ys S2 => match eqLs S2 xs ys with
  | some b => .ok (!b) S2
  | none => .bad := (rfl)
@[simp] theorem x_nilP : nilP l S = .ok [] S := (rfl)
@[simp] theorem x_consP (k v : ME) (r : MP) : consP k v r l S = (k l S).bind fun a S1 => (v l S1).bind fun b S2 => (r l S2).bind fun ps S3 => .ok ((a, b) :: ps) S3 := (rfl)
@[simp] theorem x_dictE (r : MP) : dictE r l S = (r l (S ++ [.dct []])).bind fun ps S1 => match keysO ps with
  | some kvs => if kvs.length ≤ 15 then (match dctAt S1 S.length with
    | some [] => .ok (.ref S.length) (S1.set S.length (.dct (mergeD [] kvs)))
    | _ => .bad) else .bad
  | none => .bad := (rfl)
@[simp] theorem x_bodyF (k : Nat) (b : MS) (ds : List D) : bodyF k b ds S = (b (startL k ds) S).bind fun p S1 => match p.1 with
  | .nx => .ok .non S1
  | .rt d => .ok d S1
  | _ => .bad := (rfl)
/-! values -/
@[simp] theorem x_addI (i j : Int) : addD (.int i) (.int j) S = .ok (.int (i + j)) S := (rfl)
@[simp] theorem x_addT (x y : Str) : addD (.str x) (.str y) S = if x.length + y.length ≤ sizeLine then .ok (.str (x ++ y)) S else .bad := (rfl)
@[simp] theorem x_addU (x y : List D) : addD (.tup x) (.tup y) S = if x.length + y.length ≤ sizeLine then .ok (.tup (x ++ y)) S else .bad := (rfl)
@[simp] theorem x_subI (i j : Int) : subD (.int i) (.int j) S = .ok (.int (i - j)) S := (rfl)
theorem mulOk_r {i j : Int} (h : j.natAbs < 18446744073709551616) : mulOk i j = true := by
  have e : ((2 : Int) ^ 64) = 18446744073709551616 := by decide +kernel
  unfold mulOk
  rw [e]
  simp
  right
  omega
theorem mulOk_l {i j : Int} (h : i.natAbs < 18446744073709551616) : mulOk i j = true := by
  have e : ((2 : Int) ^ 64) = 18446744073709551616 := by decide +kernel
  unfold mulOk
  rw [e]
  simp
  left
  omega
@[simp] theorem x_mulR {i j : Int} (h : j.natAbs < 18446744073709551616) : mulD (.int i) (.int j) S = .ok (.int (i * j)) S := if_pos (mulOk_r h)
@[simp] theorem x_mulL {i j : Int} (h : i.natAbs < 18446744073709551616) : mulD (.int i) (.int j) S = .ok (.int (i * j)) S := if_pos (mulOk_l h)
@[simp] theorem x_fdivI (i j : Int) : fdivD (.int i) (.int j) S = if 0 < j ∧ j < 1073741824 then .ok (.int (i / j)) S else .bad := (rfl)
@[simp] theorem x_modI (i j : Int) : modD (.int i) (.int j) S = if 0 < j then .ok (.int (i % j)) S else .bad := (rfl)
@[simp] theorem x_powI (i j : Int) : powD (.int i) (.int j) S = if 0 ≤ j ∧ j ≤ 1000000 ∧ i.natAbs < 2 ^ 64 then .ok (.int (i ^ j.toNat)) S else .bad := (rfl)
@[simp] theorem x_negI (i : Int) : negD (.int i) S = .ok (.int (-i)) S := (rfl)
@[simp] theorem x_ltI (i j : Int) : ltD (.int i) (.int j) S = .ok (decide (i < j)) S := (rfl)
@[simp] theorem x_leI (i j : Int) : leD (.int i) (.int j) S = .ok (decide (i ≤ j)) S := (rfl)
@[simp] theorem x_gtI (i j : Int) : gtD (.int i) (.int j) S = .ok (decide (j < i)) S := (rfl)
@[simp] theorem x_geI (i j : Int) : geD (.int i) (.int j) S = .ok (decide (j ≤ i)) S := (rfl)
@[simp] theorem x_leS (x y : Str) : leD (.str x) (.str y) S = .ok (!decide (cs y < cs x)) S := (rfl)
@[simp] theorem x_ltS (x y : Str) : ltD (.str x) (.str y) S = .ok (decide (cs x < cs y)) S := (rfl)
@[simp] theorem x_lenT (x : Str) : lenV [.str x] S = if x.length ≤ sizeLine then .ok (.int x.length) S else .bad := (rfl)
@[simp] theorem x_lenU (x : List D) : lenV [.tup x] S = .ok (.int x.length) S := (rfl)
@[simp] theorem x_lenW (x : List D) : lenV [.lis x] S = .ok (.int x.length) S := (rfl)
theorem x_lenR {n : Nat} {xs : List D} (h : lstAt S n = some xs) : lenV [.ref n] S = .ok (.int xs.length) S := by
  unfold lenV
  simp only [seqOf, h]
@[simp] theorem x_abs (i : Int) : absV [.int i] S = .ok (.int i.natAbs) S := by
  show R.ok (D.int (if i < 0 then -i else i)) S = _
  congr 2
  split <;> omega
@[simp] theorem x_max (i j : Int) : maxV [.int i, .int j] S = .ok (.int (max i j)) S := by
  show R.ok (D.int (if j > i then j else i)) S = _
  congr 2
  split <;> omega
@[simp] theorem x_min (i j : Int) : minV [.int i, .int j] S = .ok (.int (min i j)) S := by
  show R.ok (D.int (if j < i then j else i)) S = _
  congr 2
  split <;> omega
@[simp] theorem x_int (i : Int) : intV [.int i] S = .ok (.int i) S := (rfl)
@[simp] theorem x_intB (b : Bool) : intV [.bl b] S = .ok (.int (if b = true then 1 else 0)) S := (rfl)
@[simp] theorem x_strI (i : Int) : strV [.int i] S = if i.natAbs.log2 < 1920 then .ok (.str (toString i)) S else .bad := (rfl)
@[simp] theorem x_ixU (x : List D) (i : Int) : ixO S (.tup x) (.int i) = atI x i := (rfl)
@[simp] theorem x_ixW (x : List D) (i : Int) : ixO S (.lis x) (.int i) = atI x i := (rfl)
@[simp] theorem x_ixT (z : Str) (i : Int) : ixO S (.str z) (.int i) = if z.length ≤ sizeLine then (atI (cs z) i).map sgn else none := (rfl)
theorem x_ixR {n : Nat} {xs : List D} (h : lstAt S n = some xs) (i : Int) : ixO S (.ref n) (.int i) = atI xs i := by
  unfold ixO
  simp only [lstAt_some h]
theorem x_ixK {n : Nat} {kvs : List (Key × D)} (h : kvAt S n = some kvs) (x : Str) : ixO S (.ref n) (.str x) = dLook kvs (.inr x) := by
  unfold ixO
  simp only [h]
@[simp] theorem x_srcU (x : List D) : srcD (.tup x) S = .ok (x, still) S := (rfl)
@[simp] theorem x_srcW (x : List D) : srcD (.lis x) S = .ok (x, still) S := (rfl)
@[simp] theorem x_srcT (z : Str) : srcD (.str z) S = .ok ((cs z).map sgn, still) S := (rfl)
@[simp] theorem x_inT (c : Nat) (z : Str) : inD (sgn c) (.str z) S = .ok (decide (c ∈ cs z)) S := (rfl)
@[simp] theorem x_ninT (c : Nat) (z : Str) : notInD (sgn c) (.str z) S = .ok (!decide (c ∈ cs z)) S := (rfl)
@[simp] theorem x_eqT (x y : Str) : eqD (.str x) (.str y) S = .ok (decide (x = y)) S := (rfl)
@[simp] theorem x_neT (x y : Str) : neD (.str x) (.str y) S = .ok (!decide (x = y)) S := (rfl)
@[simp] theorem x_leG (x : Str) (c : Nat) : leD (.str x) (sgn c) S = .ok (!decide ([c] < cs x)) S := (rfl)
@[simp] theorem x_leG' (x : Str) (c : Nat) : leD (sgn c) (.str x) S = .ok (!decide (cs x < [c])) S := (rfl)
@[simp] theorem x_kNon : kindO S .non = some "NoneType" := (rfl)
@[simp] theorem x_kBl (b : Bool) : kindO S (.bl b) = some "bool" := (rfl)
@[simp] theorem x_kInt (i : Int) : kindO S (.int i) = some "int" := (rfl)
@[simp] theorem x_kStr (i : Str) : kindO S (.str i) = some "str" := (rfl)
@[simp] theorem x_kTup (i : List D) : kindO S (.tup i) = some "tuple" := (rfl)
@[simp] theorem x_kLis (i : List D) : kindO S (.lis i) = some "list" := (rfl)
theorem x_kLst {n : Nat} {xs : List D} (h : S[n]? = some (.lst xs)) : kindO S (.ref n) = some "list" := by unfold kindO; simp only [h]
end
theorem still_true (S : Store) : still S := trivial
@[simp] theorem if_still {α : Type} {S : Store} (a b : R α) [Decidable (still S)] : (if still S then a else b) = a := if_pos trivial

/-! ### loops that change nothing -/
theorem forL_nil {chk : Store → Prop} {t : MT} {b : MS} {l : Loc} {S : Store} (hk : chk S) : forL chk t b [] l S = .ok (.nx, l) S := by unfold forL; exact if_pos hk
theorem forL_cons {chk : Store → Prop} {t : MT} {b : MS} {d : D} {ds : List D} {l : Loc} {S : Store} (hk : chk S) : forL chk t b (d :: ds) l S = (t d l S).bind fun l1 S1 => (b l1 S1).bind (againS (forL chk t b ds)) := by
  conv => lhs; unfold forL
  exact if_pos hk
theorem compL_nil {chk : Store → Prop} {t : Tgt} {c : MB} {m : ME} {l : Loc} {acc : List D} {S : Store} (hk : chk S) : compL chk t c m l [] acc S = .ok acc S := by unfold compL; exact if_pos hk
theorem compL_cons {chk : Store → Prop} {t : Tgt} {c : MB} {m : ME} {l : Loc} {d : D} {ds acc : List D} {S : Store} (hk : chk S) : compL chk t c m l (d :: ds) acc S = (match t.put d l with
    | some l1 => (c l1 S).bind fun b S1 => if b = true then (m l1 S1).bind fun y S2 => if acc.length < sizeLine then compL chk t c m l ds (acc ++ [y]) S2 else .bad else compL chk t c m l ds acc S1
    | none => .bad) := by
  conv => lhs; unfold compL
  exact if_pos hk
/-- a comprehension of one name whose elements change nothing -/
theorem compL_pure {chk : Store → Prop} {i : Nat} {c : MB} {m : ME} {l : Loc} {S : Store} (hk : chk S) (p : D → Bool) (f : D → D) : ∀ (ds acc : List D), (∀ d ∈ ds, c (l.set i (some d)) S = .ok (p d) S) → (∀ d ∈ ds, p d = true → m (l.set i (some d)) S = .ok (f d) S) → acc.length + ds.length ≤ sizeLine →
    compL chk (.one i) c m l ds acc S = .ok (acc ++ (ds.filter p).map f) S
  | [], acc, _, _, _ => by rw [compL_nil hk]; simp
  | d :: ds, acc, hc, hm, hz => by
    have h1 := hc d List.mem_cons_self
    have h2 := hm d List.mem_cons_self
    rw [List.length_cons] at hz
    rw [compL_cons hk]
    simp only [Tgt.put, h1, R.bind_ok]
    cases e : p d with
    | true =>
      simp only [if_true, h2 e, R.bind_ok]
      rw [if_pos (by omega), compL_pure hk p f ds (acc ++ [f d]) (fun x hx => hc x (List.mem_cons_of_mem _ hx)) (fun x hx => hm x (List.mem_cons_of_mem _ hx)) (by rw [List.length_append, List.length_singleton]; omega)]
      simp [e]
    | false =>
      simp only [if_false, Bool.false_eq_true]
      rw [compL_pure hk p f ds acc (fun x hx => hc x (List.mem_cons_of_mem _ hx)) (fun x hx => hm x (List.mem_cons_of_mem _ hx)) (by omega)]
      simp [e]
theorem compL_map {chk : Store → Prop} {i : Nat} {m : ME} {l : Loc} {S : Store} (f : D → D) (ds : List D) (hm : ∀ d ∈ ds, m (l.set i (some d)) S = .ok (f d) S) (hz : ds.length ≤ sizeLine) (hk : chk S := by trivial) : compL chk (.one i) yesM m l ds [] S = .ok (ds.map f) S := by
  rw [compL_pure hk (fun _ => true) f ds [] (fun _ _ => rfl) (fun d hd _ => hm d hd) (by simpa using hz), List.filter_eq_self.mpr (fun _ _ => rfl)]
  rfl
theorem mapO_some {α β γ : Type} {f : α → Option β} {g : γ → α} {h : γ → β} (e : ∀ x, f (g x) = some (h x)) : ∀ xs : List γ, mapO f (xs.map g) = some (xs.map h)
  | [] => rfl
  | x :: xs => by rw [List.map_cons]; unfold mapO; rw [e, mapO_some e xs]; rfl
theorem mapO_of {α β : Type} {f : α → Option β} {h : α → β} : ∀ {xs : List α}, (∀ x ∈ xs, f x = some (h x)) → mapO f xs = some (xs.map h)
  | [], _ => rfl
  | x :: xs, e => by unfold mapO; rw [e x List.mem_cons_self, mapO_of fun y hy => e y (List.mem_cons_of_mem _ hy)]; rfl
/-- .. over items g b -/
theorem compL_pureG {β : Type} {chk : Store → Prop} {i : Nat} {c : MB} {m : ME} {l : Loc} {S : Store} (hk : chk S) (g : β → D) (p : β → Bool) (f : β → D) : ∀ (bs : List β) (acc : List D), (∀ b ∈ bs, c (l.set i (some (g b))) S = .ok (p b) S) → (∀ b ∈ bs, p b = true → m (l.set i (some (g b))) S = .ok (f b) S) → acc.length + bs.length ≤ sizeLine →
    compL chk (.one i) c m l (bs.map g) acc S = .ok (acc ++ (bs.filter p).map f) S
  | [], acc, _, _, _ => by rw [List.map_nil, compL_nil hk]; simp
  | d :: ds, acc, hc, hm, hz => by
    have h1 := hc d List.mem_cons_self
    have h2 := hm d List.mem_cons_self
    rw [List.length_cons] at hz
    rw [List.map_cons, compL_cons hk]
    simp only [Tgt.put, h1, R.bind_ok]
    cases e : p d with
    | true =>
      simp only [if_true, h2 e, R.bind_ok]
      rw [if_pos (by omega), compL_pureG hk g p f ds (acc ++ [f d]) (fun x hx => hc x (List.mem_cons_of_mem _ hx)) (fun x hx => hm x (List.mem_cons_of_mem _ hx)) (by rw [List.length_append, List.length_singleton]; omega)]
      simp [e]
    | false =>
      simp only [if_false, Bool.false_eq_true]
      rw [compL_pureG hk g p f ds acc (fun x hx => hc x (List.mem_cons_of_mem _ hx)) (fun x hx => hm x (List.mem_cons_of_mem _ hx)) (by omega)]
      simp [e]
theorem compL_mapG {β : Type} {chk : Store → Prop} {i : Nat} {m : ME} {l : Loc} {S : Store} (g : β → D) (f : β → D) (bs : List β) (hm : ∀ b ∈ bs, m (l.set i (some (g b))) S = .ok (f b) S) (hz : bs.length ≤ sizeLine) (hk : chk S := by trivial) : compL chk (.one i) yesM m l (bs.map g) [] S = .ok (bs.map f) S := by
  rw [compL_pureG hk g (fun _ => true) f bs [] (fun _ _ => rfl) (fun d hd _ => hm d hd) (by simpa using hz), List.filter_eq_self.mpr (fun _ _ => rfl)]
  rfl
theorem compL_filG {β : Type} {chk : Store → Prop} {i : Nat} {c : MB} {m : ME} {l : Loc} {S : Store} (g : β → D) (p : β → Bool) (f : β → D) (bs : List β) (hc : ∀ b ∈ bs, c (l.set i (some (g b))) S = .ok (p b) S) (hm : ∀ b ∈ bs, p b = true → m (l.set i (some (g b))) S = .ok (f b) S) (hz : bs.length ≤ sizeLine) (hk : chk S := by trivial) :
    compL chk (.one i) c m l (bs.map g) [] S = .ok ((bs.filter p).map f) S := by
  rw [compL_pureG hk g p f bs [] hc hm (by simpa using hz)]
  rfl
theorem allL_map {β : Type} (p : β → Bool) (bs : List β) (S : Store) : allL (bs.map fun b => .bl (p b)) S = .ok (.bl (bs.all p)) S := by
  unfold allL
  rw [mapO_some (f := isBl) (g := fun b => .bl (p b)) (h := p) (fun _ => rfl)]
  simp
theorem anyL_map {β : Type} (p : β → Bool) (bs : List β) (S : Store) : anyL (bs.map fun b => .bl (p b)) S = .ok (.bl (bs.any p)) S := by
  unfold anyL
  rw [mapO_some (f := isBl) (g := fun b => .bl (p b)) (h := p) (fun _ => rfl)]
  simp
theorem sz : sizeLine = 16777216 := rfl
theorem lt1 (a b : Nat) : ([a] : List Nat) < [b] ↔ a < b := by simp [List.cons_lt_cons_iff]
/-- a run that ends well -/
def Ret {α : Type} (r : R α) (Q : α → Store → Prop) : Prop := match r with
  | .ok a S => Q a S
  | _ => False
@[simp] theorem Ret_ok {α : Type} (a : α) (S : Store) (Q : α → Store → Prop) : Ret (.ok a S) Q ↔ Q a S := Iff.rfl
theorem Ret_bind {α β : Type} (r : R α) (f : α → Store → R β) (Q : β → Store → Prop) : Ret (r.bind f) Q ↔ Ret r fun a S => Ret (f a S) Q := by cases r <;> exact Iff.rfl
theorem Ret.imp {α : Type} {r : R α} {Q Q' : α → Store → Prop} (h : Ret r Q) (i : ∀ a S, Q a S → Q' a S) : Ret r Q' := by
  cases r with
  | ok a S => exact i a S h
  | ex x S => exact h
  | bad => exact h
theorem Ret.of {α : Type} {r : R α} {Q : α → Store → Prop} (h : Ret r Q) : ∃ a S, r = .ok a S ∧ Q a S := by
  cases r with
  | ok a S => exact ⟨a, S, rfl, h⟩
  | ex x S => exact h.elim
  | bad => exact h.elim
theorem Ret.bind {α β : Type} {r : R α} {f : α → Store → R β} {Q : β → Store → Prop} (h : Ret r fun a S => Ret (f a S) Q) : Ret (r.bind f) Q := (Ret_bind r f Q).mpr h
/-- a for loop with an invariant over the number of turns -/
theorem forL_inv {chk : Store → Prop} {t : MT} {b : MS} {Q : Fl × Loc → Store → Prop} (I : Nat → Loc → Store → Prop) {ds : List D} (hc : ∀ k l S, I k l S → chk S)
    (hs : ∀ k d l S, I k l S → ds[k]? = some d → Ret (t d l S) fun l1 S1 => Ret (b l1 S1) fun p S2 => match p.1 with
      | .nx => I (k + 1) p.2 S2
      | .ct => I (k + 1) p.2 S2
      | .bk => Q (.nx, p.2) S2
      | .rt _ => Q p S2) (he : ∀ l S, I ds.length l S → Q (.nx, l) S) :
    ∀ (j k : Nat) (l : Loc) (S : Store), j = ds.length - k → k ≤ ds.length → I k l S → Ret (forL chk t b (ds.drop k) l S) Q
  | 0, k, l, S, e, hk, h => by
    have : k = ds.length := by omega
    subst this
    rw [List.drop_length]
    unfold forL
    rw [if_pos (hc _ _ _ h)]
    exact he l S h
  | j + 1, k, l, S, e, hk, h => by
    have hk : k < ds.length := by omega
    rw [List.drop_eq_getElem_cons hk]
    unfold forL
    rw [if_pos (hc _ _ _ h)]
    have h1 := hs k ds[k] l S h (List.getElem?_eq_getElem hk)
    refine (h1.imp fun l1 S1 h => ?_).bind
    refine (h.imp fun p S2 h => ?_).bind
    obtain ⟨fl, l2⟩ := p
    cases fl with
    | nx => exact forL_inv I hc hs he j (k + 1) l2 S2 (by omega) (by omega) h
    | ct => exact forL_inv I hc hs he j (k + 1) l2 S2 (by omega) (by omega) h
    | bk => exact h
    | rt d => exact h
/-! ### equality is equality of data -/
mutual
theorem toPy_dep {S : Store} : ∀ (k : Nat) (d : D) (p : PyData), toPy S k d = some p → p.depth ≤ k
  | k, .non, p, h => by
    unfold toPy at h
    cases h
    exact by simp [PyData.depth]
  | k, .bl b, p, h => by
    unfold toPy at h
    cases h
    exact by simp [PyData.depth]
  | k, .int b, p, h => by
    unfold toPy at h
    cases h
    exact by simp [PyData.depth]
  | k, .str b, p, h => by
    unfold toPy at h
    cases h
    exact by simp [PyData.depth]
  | k, .exn b, p, h => by
    unfold toPy at h
    cases h
  | 0, .tup xs, p, h => by simp [toPy] at h
  | 0, .lis xs, p, h => by simp [toPy] at h
  | 0, .ref n, p, h => by simp [toPy] at h
  | k + 1, .tup xs, p, h => by
    have h : (mapO (toPy S k) xs).map PyData.tuple = some p := h
    cases e : mapO (toPy S k) xs with
    | none => rw [e] at h; simp at h
    | some q =>
      rw [e] at h
      cases h
      have := toPys_dep k xs q e
      exact by simp [PyData.depth]; omega
  | k + 1, .lis xs, p, h => by
    have h : (mapO (toPy S k) xs).map PyData.list = some p := h
    cases e : mapO (toPy S k) xs with
    | none => rw [e] at h; simp at h
    | some q =>
      rw [e] at h
      cases h
      have := toPys_dep k xs q e
      exact by simp [PyData.depth]; omega
  | k + 1, .ref n, p, h => by
    unfold toPy at h
    cases e1 : lstAt S n with
    | none => simp [e1] at h
    | some xs =>
      simp only [e1] at h
      cases e : mapO (toPy S k) xs with
      | none => simp [e] at h
      | some q =>
        rw [e] at h
        cases h
        have := toPys_dep k xs q e
        exact by simp [PyData.depth]; omega
theorem toPys_dep {S : Store} (k : Nat) : ∀ (xs : List D) (ps : List PyData), mapO (toPy S k) xs = some ps → PyData.depthAll ps ≤ k
  | [], ps, h => by
    unfold mapO at h
    cases h
    exact by simp [PyData.depthAll]
  | x :: xs, ps, h => by
    unfold mapO at h
    cases e1 : toPy S k x with
    | none => simp [e1] at h
    | some p =>
      cases e2 : mapO (toPy S k) xs with
      | none => simp [e1, e2] at h
      | some q =>
        simp [e1, e2] at h
        cases h
        have h1 := toPy_dep k x p e1
        have h2 := toPys_dep k xs q e2
        exact by simp [PyData.depthAll]; omega
end
theorem toPy_shaped {S : Store} {d : D} {p : PyData} (h : toPy S 64 d = some p) (c : p.canLay0 = true) : SeqAt.shaped p = true := by
  have := toPy_dep 64 d p h
  show (p.canLay0 && decide (p.depth ≤ 64)) = true
  rw [c, decide_eq_true this]
  rfl
theorem eqPy_of {S : Store} {d e : D} {p q : PyData} (h1 : toPy S 64 d = some p) (h2 : toPy S 64 e = some q) (c1 : p.canLay0 = true) (c2 : q.canLay0 = true) : eqPy S d e = some (PyData.eqv p q) := by
  unfold eqPy
  simp only [h1, h2]
  rw [if_pos ⟨toPy_shaped h1 c1, toPy_shaped h2 c2⟩]
theorem eqO_of {S : Store} {d e : D} {p q : PyData} (h1 : toPy S 64 d = some p) (h2 : toPy S 64 e = some q) (c1 : p.canLay0 = true) (c2 : q.canLay0 = true) : eqO S d e = some (PyData.eqv p q) := by
  unfold eqO
  split
  · simp only [toPy] at h1 h2
    cases h1
    cases h2
    simp [PyData.eqv]
    rfl
  · simp only [toPy] at h1 h2; cases h1; cases h2; rfl
  · simp only [toPy] at h1 h2; cases h1; cases h2; rfl
  · simp only [toPy] at h1 h2; cases h1; cases h2; rfl
  · simp only [toPy] at h1 h2; cases h1; cases h2; rfl
  · simp only [toPy] at h1 h2; cases h1; cases h2; rfl
  · simp only [toPy] at h1 h2; cases h1; cases h2; rfl
  · exact eqPy_of h1 h2 c1 c2
theorem eqD_of {S : Store} {d e : D} {p q : PyData} (h1 : toPy S 64 d = some p) (h2 : toPy S 64 e = some q) (c1 : p.canLay0 = true) (c2 : q.canLay0 = true) : eqD d e S = .ok (PyData.eqv p q) S := by
  unfold eqD
  simp only [eqO_of h1 h2 c1 c2]
theorem neD_of {S : Store} {d e : D} {p q : PyData} (h1 : toPy S 64 d = some p) (h2 : toPy S 64 e = some q) (c1 : p.canLay0 = true) (c2 : q.canLay0 = true) : neD d e S = .ok (!PyData.eqv p q) S := by
  unfold neD
  simp only [eqO_of h1 h2 c1 c2]
theorem eqLs_of {S : Store} {xs ys : List D} {ps qs : List PyData} (h1 : mapO (toPy S 63) xs = some ps) (h2 : mapO (toPy S 63) ys = some qs) (c1 : PyData.canLayAll0 ps = true) (c2 : PyData.canLayAll0 qs = true) : eqLs S xs ys = some (PyData.eqvAll ps qs) := by
  have a1 := toPys_dep 63 xs ps h1
  have a2 := toPys_dep 63 ys qs h2
  unfold eqLs
  simp only [h1, h2]
  rw [if_pos]
  · rw [PyData.eqv]
  · constructor
    · show (PyData.canLay0 (.list ps) && decide (PyData.depth (.list ps) ≤ 64)) = true
      simp [PyData.canLay0, PyData.depth, c1]
      omega
    · show (PyData.canLay0 (.list qs) && decide (PyData.depth (.list qs) ≤ 64)) = true
      simp [PyData.canLay0, PyData.depth, c2]
      omega
@[simp] theorem toPy_non (S : Store) (k : Nat) : toPy S k .non = some .none := by unfold toPy; cases k <;> rfl
@[simp] theorem toPy_bl (S : Store) (k : Nat) (b : Bool) : toPy S k (.bl b) = some (.bool b) := by unfold toPy; cases k <;> rfl
@[simp] theorem toPy_int (S : Store) (k : Nat) (i : Int) : toPy S k (.int i) = some (.int i) := by unfold toPy; cases k <;> rfl
@[simp] theorem toPy_str (S : Store) (k : Nat) (x : Str) : toPy S k (.str x) = some (.str x) := by unfold toPy; cases k <;> rfl
@[simp] theorem toPy_exn (S : Store) (k : Nat) (a : Addr) : toPy S k (.exn a) = none := by unfold toPy; cases k <;> rfl
@[simp] theorem toPy_sgn (S : Store) (k : Nat) (c : Nat) : toPy S k (sgn c) = some (.str ⟨#[c]⟩) := toPy_str S k _
@[simp] theorem toPy_tup (S : Store) (k : Nat) (xs : List D) : toPy S (k + 1) (.tup xs) = (mapO (toPy S k) xs).map .tuple := (rfl)
@[simp] theorem toPy_lis (S : Store) (k : Nat) (xs : List D) : toPy S (k + 1) (.lis xs) = (mapO (toPy S k) xs).map .list := (rfl)
theorem toPy_ref {S : Store} {n : Nat} {xs : List D} (h : S[n]? = some (.lst xs)) (k : Nat) : toPy S (k + 1) (.ref n) = (mapO (toPy S k) xs).map .list := by
  conv => lhs; unfold toPy
  simp only [lstAt_of h]
@[simp] theorem mapO_nil {α β : Type} (f : α → Option β) : mapO f [] = some [] := (rfl)
@[simp] theorem mapO_cons {α β : Type} (f : α → Option β) (x : α) (xs : List α) : mapO f (x :: xs) = match f x, mapO f xs with
  | some y, some ys => some (y :: ys)
  | _, _ => none := (rfl)
theorem eqvAll_nil (ps : List PyData) : PyData.eqvAll ps [] = ps.isEmpty := by cases ps <;> simp [PyData.eqvAll]
/-- loops -/
theorem forS_inv {chk : Store → Prop} {t : MT} {b : MS} {Q : Fl × Loc → Store → Prop} (I : Nat → Loc → Store → Prop) {ds : List D} {l : Loc} {S : Store} (h0 : I 0 l S) (hc : ∀ k l S, I k l S → chk S)
    (hs : ∀ k d l S, I k l S → ds[k]? = some d → Ret (t d l S) fun l1 S1 => Ret (b l1 S1) fun p S2 => match p.1 with
      | .nx => I (k + 1) p.2 S2
      | .ct => I (k + 1) p.2 S2
      | .bk => Q (.nx, p.2) S2
      | .rt _ => Q p S2) (he : ∀ l S, I ds.length l S → Q (.nx, l) S) : Ret (forL chk t b ds l S) Q := by
  have := forL_inv I hc hs he ds.length 0 l S (by omega) (by omega) h0
  rwa [List.drop_zero] at this
@[simp] theorem ofString_inj (a b : String) : Str.ofString a = Str.ofString b ↔ a = b := by
  refine ⟨fun h => ?_, fun h => by rw [h]⟩
  have := congrArg cs h
  rw [cs_of, cs_of] at this
  have inj : ∀ l m : List Char, l.map Char.toNat = m.map Char.toNat → l = m := by
    intro l
    induction l with
    | nil => intro m h; cases m with
      | nil => rfl
      | cons c m => simp at h
    | cons a l ih => intro m h; cases m with
      | nil => simp at h
      | cons c m =>
        simp at h
        rw [Char.toNat_inj.mp h.1, ih m h.2]
  exact String.toList_inj.mp (inj _ _ this)
theorem x_ix (d e : D) (S : Store) : ixD d e S = match ixO S d e with
  | some x => .ok x S
  | none => .bad := (rfl)
theorem x_ixD {d e x : D} {S : Store} (h : ixO S d e = some x) : ixD d e S = .ok x S := by unfold ixD; rw [h]
@[simp] theorem x_eqI (i j : Int) (S : Store) : eqD (.int i) (.int j) S = .ok (decide (i = j)) S := by
  rw [eqD_of (p := .int i) (q := .int j) rfl rfl rfl rfl]
  simp [PyData.eqv]
  rfl
@[simp] theorem x_neI (i j : Int) (S : Store) : neD (.int i) (.int j) S = .ok (!decide (i = j)) S := by
  rw [neD_of (p := .int i) (q := .int j) rfl rfl rfl rfl]
  simp [PyData.eqv]
  rfl
@[simp] theorem x_slT (z : Str) (lo hi : Option Int) (S : Store) : sliceD (.str z) lo hi S = if z.length ≤ sizeLine then .ok (.str (cutS z lo hi)) S else .bad := (rfl)
theorem cs_cut {z : Str} {lo hi : Option Int} {c : Nat} (h : c ∈ cs (cutS z lo hi)) : c ∈ cs z := by
  have h : c ∈ ((cs z).drop (HT.sIx z.length 0 lo)).take (HT.sIx z.length z.length hi - HT.sIx z.length 0 lo) := h
  exact List.mem_of_mem_drop (List.mem_of_mem_take h)
theorem joinL_one : ∀ l : List Nat, TL.joinL [] (l.map fun c => [c]) = l
  | [] => rfl
  | [c] => rfl
  | c :: d :: l => by
    have := joinL_one (d :: l)
    simp only [List.map_cons] at this ⊢
    unfold TL.joinL
    rw [this]
    rfl
theorem cs_join1 (l : List Nat) : cs (Str.join (Str.ofString "") (l.map fun c => (⟨#[c]⟩ : Str))) = l := by
  rw [cs_join, cs_of, List.map_map]
  exact joinL_one l
theorem strO_sgns (l : List Nat) : mapO strO (l.map sgn) = some (l.map fun c => (⟨#[c]⟩ : Str)) := mapO_some (f := strO) (g := sgn) (h := fun c => (⟨#[c]⟩ : Str)) (fun _ => rfl) l
theorem sum_ones (l : List Nat) : ((l.map fun c => (⟨#[c]⟩ : Str)).map (·.length)).sum = l.length := by
  induction l with
  | nil => rfl
  | cons c l ih =>
    simp only [List.map_cons, List.sum_cons, ih, List.length_cons]
    have : (⟨#[c]⟩ : Str).length = 1 := rfl
    omega
/-- ''.join of signs -/
theorem joinN_signs {m : MA} {l : Loc} {S S1 : Store} {ks : List Nat} (h : m l S = .ok (ks.map sgn) S1) (hz : ks.length ≤ 16777216) : ∃ x, joinN (conE (.str (Str.ofString ""))) m l S = .ok (.str x) S1 ∧ cs x = ks := by
  refine ⟨Str.join (Str.ofString "") (ks.map fun c => (⟨#[c]⟩ : Str)), ?_, cs_join1 ks⟩
  have e : (Str.ofString "").length = 0 := rfl
  simp only [x_joinN, x_con, R.bind_ok, h, x_strO, strO_sgns, sum_ones, e, Nat.mul_zero, Nat.add_zero]
  rw [if_pos hz]
@[simp] theorem len_app (x y : Str) : (x ++ y).length = x.length + y.length := by rw [← cs_len, cs_app, List.length_append, cs_len, cs_len]
theorem len_of (s : String) : (Str.ofString s).length = s.toList.length := by rw [← cs_len, cs_of, List.length_map]
theorem atI_mem {α : Type} {xs : List α} {i : Int} (h0 : 0 ≤ i) (h1 : i < xs.length) : ∃ u ∈ xs, atI xs i = some u := by
  obtain ⟨k, rfl⟩ : ∃ k : Nat, i = k := ⟨i.toNat, by omega⟩
  have hk : k < xs.length := by omega
  exact ⟨xs[k], List.getElem_mem hk, L2.atI_nat (List.getElem?_eq_getElem hk)⟩
@[simp] theorem x_rng1 {j : Int} {S : Store} (h1 : -4611686018427387904 ≤ j) (h2 : j < 4611686018427387904) : rng1 [.int j] S = .ok (intsFrom 0 j.toNat, still) S := if_pos ⟨by omega, by omega⟩
@[simp] theorem x_rng2 {i j : Int} {S : Store} (h3 : -4611686018427387904 ≤ i) (h4 : i < 4611686018427387904) (h1 : -4611686018427387904 ≤ j) (h2 : j < 4611686018427387904) : rng2 [.int i, .int j] S = .ok (intsFrom i (j - i).toNat, still) S := if_pos ⟨by omega, by omega, by omega, by omega⟩
theorem ints_at {lo : Int} {n k : Nat} {d : D} (h : (intsFrom lo n)[k]? = some d) : k < n ∧ d = .int (lo + (k : Nat)) := by
  unfold intsFrom at h
  have hk := (List.getElem?_eq_some_iff.mp h).1
  rw [List.length_map, List.length_range] at hk
  rw [List.getElem?_map, List.getElem?_range hk] at h
  cases h
  exact ⟨hk, rfl⟩
@[simp] theorem x_newC (c : Cell) (S : Store) : newC c S = .ok (.ref S.length) (S ++ [c]) := (rfl)
theorem x_addR {S : Store} {n m : Nat} {xs ys : List D} (h1 : S[n]? = some (.lst xs)) (h2 : S[m]? = some (.lst ys)) (h : xs.length + ys.length ≤ 16777216) : addD (.ref n) (.ref m) S = .ok (.ref S.length) (S ++ [.lst (xs ++ ys)]) := by
  unfold addD
  simp only [lstAt_of h1, lstAt_of h2]
  rw [if_pos (show _ ≤ sizeLine from h)]
  rfl
theorem x_srcR {S : Store} {n : Nat} {xs : List D} (h : S[n]? = some (.lst xs)) : srcD (.ref n) S = .ok (xs, fun S' => lstAt S' n = some xs) S := by
  unfold srcD
  simp only [lstAt_of h]
theorem at_app {S T : Store} {n : Nat} {c : Cell} (h : S[n]? = some c) : (S ++ T)[n]? = some c := by
  rw [List.getElem?_append_left (List.getElem?_eq_some_iff.mp h).1]
  exact h
theorem at_end {S : Store} {c : Cell} : (S ++ [c])[S.length]? = some c := by simp
/-- the text of a number -/
theorem num_text (n : Int) (h0 : 0 ≤ n) (k : Nat) (hk : 0 < k) (h1 : n < 10 ^ k) : ∃ x : Str, Str.ofString (toString n) = x ∧ x.length ≤ k ∧ ∀ c ∈ cs x, 48 ≤ c ∧ c ≤ 57 := by
  obtain ⟨m, rfl⟩ : ∃ m : Nat, n = m := ⟨n.toNat, by omega⟩
  have hm : m < 10 ^ k := by exact_mod_cast h1
  refine ⟨_, rfl, ?_, ?_⟩
  · rw [← cs_len, cs, TL.tl_num]
    exact TL.numL_len hk hm
  · rw [cs, TL.tl_num]
    exact TL.numL_digits m
end ML

set_option Elab.async false
set_option linter.all false
set_option maxRecDepth 100000
set_option autoImplicit false
/-! ML13: more reckoning. -/
namespace ML
open PySem PySem.Spec L2

/-- a text of signs -/
def mkS (w : List Nat) : Str := ⟨w.toArray⟩
@[simp] theorem cs_mkS (w : List Nat) : cs (mkS w) = w := by
  show w.toArray.toList = w
  simp
theorem mkS_cs (x : Str) : mkS (cs x) = x := cs_ext (cs_mkS _)
@[simp] theorem mkS_len (w : List Nat) : (mkS w).length = w.length := by rw [← cs_len, cs_mkS]
theorem mkS_of (s : String) : Str.ofString s = mkS (s.toList.map Char.toNat) := cs_ext (by rw [cs_of, cs_mkS])
theorem mkS_inj {a b : List Nat} : mkS a = mkS b ↔ a = b := ⟨fun h => by have := congrArg cs h; rwa [cs_mkS, cs_mkS] at this, fun h => by rw [h]⟩
theorem mkS_app (a b : List Nat) : mkS a ++ mkS b = mkS (a ++ b) := cs_ext (by rw [cs_app, cs_mkS, cs_mkS, cs_mkS])
theorem sgn_mk (c : Nat) : sgn c = .str (mkS [c]) := rfl
theorem x_neG (c : Nat) (y : Str) (S : Store) : neD (sgn c) (.str y) S = .ok (!decide ([c] = cs y)) S := by
  rw [sgn_mk, x_neT]
  congr 2
  refine decide_eq_decide.mpr ⟨fun h => ?_, fun h => cs_ext ?_⟩
  · rw [← h, cs_mkS]
  · rw [cs_mkS]; exact h
@[simp] theorem x_ordG (c : Nat) (S : Store) : ordV [sgn c] S = .ok (.int c) S := (rfl)
@[simp] theorem lstAt_end (T : Store) (xs : List D) : lstAt (T ++ [.lst xs]) T.length = some xs := lstAt_of (by simp)
@[simp] theorem set_end (T : Store) (c d : Cell) : (T ++ [c]).set T.length d = T ++ [d] := by
  rw [List.set_append_right _ _ (Nat.le_refl _)]
  simp
theorem x_append {S : Store} {n : Nat} {xs : List D} {d : D} (h : lstAt S n = some xs) (hz : xs.length < 16777216) : appendM (.ref n) [d] S = .ok .non (S.set n (.lst (xs ++ [d]))) := by
  unfold appendM
  simp only [h]
  exact if_pos hz
@[simp] theorem x_lstOfR (S : Store) (n : Nat) : lstOf S (.ref n) = lstAt S n := (rfl)
theorem sIx_of {n d : Nat} {k : Nat} : HT.sIx n d (some (k : Int)) = min k n := HT.sIx_nat n d k
theorem cs_take (z : Str) (k : Nat) : cs (cutS z none (some (k : Int))) = (cs z).take k := by
  have h : cs (cutS z none (some (k : Int))) = ((cs z).drop (HT.sIx z.length 0 none)).take (HT.sIx z.length z.length (some (k : Int)) - HT.sIx z.length 0 none) := rfl
  rw [h, sIx_of, HT.sIx_none, List.drop_zero, Nat.sub_zero, ← cs_len, ← List.take_take, List.take_length]
theorem cs_drop (z : Str) (k : Nat) : cs (cutS z (some (k : Int)) none) = (cs z).drop k := by
  have h : cs (cutS z (some (k : Int)) none) = ((cs z).drop (HT.sIx z.length 0 (some (k : Int)))).take (HT.sIx z.length z.length none - HT.sIx z.length 0 (some (k : Int))) := rfl
  rw [h, sIx_of, HT.sIx_none, ← cs_len, List.take_of_length_le (by rw [List.length_drop]; exact Nat.le_refl _)]
  by_cases q : k ≤ (cs z).length
  · rw [Nat.min_eq_left q]
  · rw [Nat.min_eq_right (by omega), List.drop_length, List.drop_of_length_le (by omega)]
theorem cutD_take (xs : List D) (k : Nat) : cutD xs none (some (k : Int)) = xs.take k := by
  unfold cutD
  rw [sIx_of, HT.sIx_none, List.drop_zero, Nat.sub_zero, ← List.take_take, List.take_length]
theorem cutD_drop (xs : List D) (k : Nat) : cutD xs (some (k : Int)) none = xs.drop k := by
  unfold cutD
  rw [sIx_of, HT.sIx_none, List.take_of_length_le (by rw [List.length_drop]; exact Nat.le_refl _)]
  by_cases q : k ≤ xs.length
  · rw [Nat.min_eq_left q]
  · rw [Nat.min_eq_right (by omega), List.drop_length, List.drop_of_length_le (by omega)]
/-- texts as things -/
def strD (w : List Nat) : D := .str (mkS w)
def okT (w : List Nat) : Prop := ∀ c ∈ w, c < 1114112
theorem lay_str {w : List Nat} (h : okT w) : (PyData.str (mkS w)).canLay0 = true := by
  simp only [PyData.canLay0, PyData.strOk, mkS]
  simpa [okT] using h
theorem lay_strs : ∀ {ws : List (List Nat)}, (∀ w ∈ ws, okT w) → PyData.canLayAll0 (ws.map fun w => PyData.str (mkS w)) = true
  | [], _ => rfl
  | w :: ws, h => by
    rw [List.map_cons, PyData.canLayAll0, lay_str (h w List.mem_cons_self), lay_strs fun v hv => h v (List.mem_cons_of_mem _ hv)]
    rfl
theorem eqv_strs : ∀ (ws vs : List (List Nat)), PyData.eqvAll (ws.map fun w => PyData.str (mkS w)) (vs.map fun w => PyData.str (mkS w)) = decide (ws = vs)
  | [], [] => by simp [PyData.eqvAll]
  | [], v :: vs => by simp [PyData.eqvAll]
  | w :: ws, [] => by simp [PyData.eqvAll]
  | w :: ws, v :: vs => by
    have e : (mkS w == mkS v) = decide (w = v) := by
      by_cases q : w = v
      · subst q; simp
      · rw [decide_eq_false q]
        exact beq_eq_false_iff_ne.mpr fun z => q (mkS_inj.mp z)
    simp [PyData.eqvAll, PyData.eqv, eqv_strs ws vs, e]
theorem toPy_strs {S : Store} {n : Nat} {ws : List (List Nat)} (h : S[n]? = some (.lst (ws.map strD))) (k : Nat) : toPy S (k + 1) (.ref n) = some (.list (ws.map fun w => PyData.str (mkS w))) := by
  rw [toPy_ref h, mapO_some (f := toPy S k) (g := strD) (h := fun w => PyData.str (mkS w)) (fun w => toPy_str S k _)]
  rfl
theorem x_eqStrs {S : Store} {n m : Nat} {ws vs : List (List Nat)} (h1 : S[n]? = some (.lst (ws.map strD))) (h2 : S[m]? = some (.lst (vs.map strD))) (k1 : ∀ w ∈ ws, okT w) (k2 : ∀ w ∈ vs, okT w) : eqD (.ref n) (.ref m) S = .ok (decide (ws = vs)) S := by
  rw [eqD_of (toPy_strs h1 63) (toPy_strs h2 63) (by rw [PyData.canLay0]; exact lay_strs k1) (by rw [PyData.canLay0]; exact lay_strs k2), PyData.eqv, eqv_strs]
theorem x_neStrs {S : Store} {n m : Nat} {ws vs : List (List Nat)} (h1 : S[n]? = some (.lst (ws.map strD))) (h2 : S[m]? = some (.lst (vs.map strD))) (k1 : ∀ w ∈ ws, okT w) (k2 : ∀ w ∈ vs, okT w) : neD (.ref n) (.ref m) S = .ok (!decide (ws = vs)) S := by
  rw [neD_of (toPy_strs h1 63) (toPy_strs h2 63) (by rw [PyData.canLay0]; exact lay_strs k1) (by rw [PyData.canLay0]; exact lay_strs k2), PyData.eqv, eqv_strs]
theorem strD_one (c : Nat) : strD [c] = sgn c := rfl
theorem strD_nil : D.str (Str.ofString "") = strD [] := congrArg D.str (mkS_of "")
theorem x_neD (w : List Nat) (y : Str) (S : Store) : neD (strD w) (.str y) S = .ok (!decide (w = cs y)) S := by
  show neD (.str (mkS w)) (.str y) S = _
  rw [x_neT]
  congr 2
  exact decide_eq_decide.mpr ⟨fun h => by rw [← h, cs_mkS], fun h => cs_ext (by rw [cs_mkS]; exact h)⟩
theorem x_neDD (w v : List Nat) (S : Store) : neD (strD w) (strD v) S = .ok (!decide (w = v)) S := by
  have := x_neD w (mkS v) S
  rwa [cs_mkS] at this
theorem x_addDG (w : List Nat) (c : Nat) (S : Store) : addD (strD w) (sgn c) S = if w.length + 1 ≤ sizeLine then .ok (strD (w ++ [c])) S else .bad := by
  show addD (.str (mkS w)) (.str (mkS [c])) S = _
  rw [x_addT, mkS_app, mkS_len, mkS_len]
  rfl
theorem x_addDD (w v : List Nat) (S : Store) : addD (strD w) (strD v) S = if w.length + v.length ≤ sizeLine then .ok (strD (w ++ v)) S else .bad := by
  show addD (.str (mkS w)) (.str (mkS v)) S = _
  rw [x_addT, mkS_app, mkS_len, mkS_len]
  rfl
theorem x_lenD {w : List Nat} {S : Store} (h : w.length ≤ 16777216) : lenV [strD w] S = .ok (.int w.length) S := by
  show lenV [.str (mkS w)] S = _
  rw [x_lenT, mkS_len, if_pos (show _ ≤ sizeLine from h)]
theorem x_slTake {w : List Nat} {k : Nat} {S : Store} (h : w.length ≤ 16777216) : sliceD (strD w) none (some (k : Int)) S = .ok (strD (w.take k)) S := by
  show sliceD (.str (mkS w)) none (some (k : Int)) S = _
  rw [x_slT, mkS_len, if_pos (show _ ≤ sizeLine from h)]
  have e : cutS (mkS w) none (some (k : Int)) = mkS (w.take k) := cs_ext (by rw [cs_take, cs_mkS, cs_mkS])
  rw [e]
  rfl
theorem x_slDrop {w : List Nat} {k : Nat} {S : Store} (h : w.length ≤ 16777216) : sliceD (strD w) (some (k : Int)) none S = .ok (strD (w.drop k)) S := by
  show sliceD (.str (mkS w)) (some (k : Int)) none S = _
  rw [x_slT, mkS_len, if_pos (show _ ≤ sizeLine from h)]
  have e : cutS (mkS w) (some (k : Int)) none = mkS (w.drop k) := cs_ext (by rw [cs_drop, cs_mkS, cs_mkS])
  rw [e]
  rfl
theorem x_slR {S : Store} {n k : Nat} {xs : List D} (h : lstAt S n = some xs) : sliceD (.ref n) none (some (k : Int)) S = .ok (.ref S.length) (S ++ [.lst (xs.take k)]) := by
  unfold sliceD
  simp only [x_lstOfR, h, cutD_take]
  rfl
theorem x_slRD {S : Store} {n k : Nat} {xs : List D} (h : lstAt S n = some xs) : sliceD (.ref n) (some (k : Int)) none S = .ok (.ref S.length) (S ++ [.lst (xs.drop k)]) := by
  unfold sliceD
  simp only [x_lstOfR, h, cutD_drop]
  rfl
/-- a try that catches -/
theorem catch_ok {hit : Nat → Option Bool} {i : Nat} {mb : MS} {mh : Addr → Exn → MS} {l : Loc} {S S1 : Store} {p : Fl × Loc} (h : mb l S = .ok p S1) : catchS hit i mb mh l S = .ok p S1 := by
  unfold catchS
  rw [h]
theorem catch_ex {hit : Nat → Option Bool} {i : Nat} {mb : MS} {mh : Addr → Exn → MS} {l : Loc} {S S1 : Store} {x : Exn} {r : R (Fl × Loc)} (h : mb l S = .ex x S1) (hh : hit x.c = some true) (hr : ∀ a, (goneS i (mh a x (l.set i (some (.exn a))) S1)).noex = r) : catchS hit i mb mh l S = r := by
  unfold catchS
  rw [h]
  simp only [hh]
  exact same_of hr
@[simp] theorem x_raiseS (k : Nat) (l : Loc) (S : Store) : raiseS k l S = .ex ⟨k, []⟩ S := (rfl)
@[simp] theorem x_goneOk (i : Nat) (p : Fl × Loc) (S : Store) : goneS i (.ok p S) = .ok (p.1, p.2.set i none) S := (rfl)
@[simp] theorem x_isX (t : Bool) (a : Addr) (m : ME) (l : Loc) (S : Store) : isX (some t) a m l S = (m l S).bind fun d S1 => match d with
    | .exn b => if b = a then .ok t S1 else .bad
    | _ => .bad := (rfl)
theorem x_rep {x : Str} {n : Int} {S : Store} (h : 2 ≤ n) (h1 : 0 < x.length) (h2 : n < 4294967296) (h3 : x.length * n.toNat ≤ 16777216) : mulD (.str x) (.int n) S = .ok (.str (repS x n.toNat)) S := by
  show (if n ≤ 0 ∧ -(2 ^ 63) ≤ n then R.ok (D.str Str.empty) S else if n = 1 then R.ok (D.str x) S else if 2 ≤ n ∧ 0 < x.length ∧ n < 2 ^ 32 ∧ x.length * n.toNat ≤ 16777216 then R.ok (D.str (repS x n.toNat)) S else .bad) = _
  rw [if_neg (by omega), if_neg (by omega), if_pos ⟨h, h1, by omega, h3⟩]
theorem cs_rep (x : Str) (n : Nat) : cs (repS x n) = (List.replicate n (cs x)).flatten := rep_cs x n
theorem repS_D (x : Str) (n : Nat) : D.str (repS x n) = strD (List.replicate n (cs x)).flatten := by
  show _ = D.str (mkS _)
  rw [← cs_rep, mkS_cs]
end ML

set_option Elab.async false
set_option linter.all false
set_option maxRecDepth 100000
set_option autoImplicit false
set_option maxHeartbeats 4000000
namespace K04
open PySem PySem.Spec L2 ML
def topS (i : Nat) : Stmt := PySem.Challenge.pw_waitloom_k04_words.main.body.getD i (.Pass ⟨0, 0, 0, 0⟩)
abbrev s__law_cell_at : Stmt := topS 14
abbrev N__law_cell_at : List Str := ["_law_script", "_law_k"]
theorem sc__law_cell_at : FnScope N__law_cell_at ["_law_script", "_law_k"] (defScope s__law_cell_at) := ⟨rfl, rfl, rfl, by decide +kernel, rfl, by decide +kernel, by decide +kernel⟩
abbrev s__law_next : Stmt := topS 15
abbrev N__law_next : List Str := ["_law_state", "_law_k", "_law_cell"]
theorem sc__law_next : FnScope N__law_next ["_law_state"] (defScope s__law_next) := ⟨rfl, rfl, rfl, by decide +kernel, rfl, by decide +kernel, by decide +kernel⟩
abbrev s__law_signs : Stmt := topS 16
abbrev N__law_signs : List Str := []
theorem sc__law_signs : FnScope N__law_signs [] (defScope s__law_signs) := ⟨rfl, rfl, rfl, by decide +kernel, rfl, by decide +kernel, by decide +kernel⟩
abbrev s__law_made : Stmt := topS 17
abbrev N__law_made : List Str := ["_law_state", "_law_text", "_law_words", "_law_was_word", "_law_turn", "_law_number", "_law_signs_here", "_law_piece", "_law_k"]
theorem sc__law_made : FnScope N__law_made ["_law_state"] (defScope s__law_made) := ⟨rfl, rfl, rfl, by decide +kernel, rfl, by decide +kernel, by decide +kernel⟩
abbrev s_need_text : Stmt := topS 11
abbrev N_need_text : List Str := ["text", "sign"]
theorem sc_need_text : FnScope N_need_text ["text"] (defScope s_need_text) := ⟨rfl, rfl, rfl, by decide +kernel, rfl, by decide +kernel, by decide +kernel⟩
abbrev s_words_of : Stmt := topS 12
abbrev N_words_of : List Str := ["text", "found", "word", "sign"]
theorem sc_words_of : FnScope N_words_of ["text"] (defScope s_words_of) := ⟨rfl, rfl, rfl, by decide +kernel, rfl, by decide +kernel, by decide +kernel⟩
abbrev s__law_refused : Stmt := topS 18
abbrev N__law_refused : List Str := ["_law_text", "e", "_law_others"]
theorem sc__law_refused : FnScope N__law_refused ["_law_text"] (defScope s__law_refused) := ⟨rfl, rfl, rfl, by decide +kernel, rfl, by decide +kernel, by decide +kernel⟩
abbrev s_law : Stmt := topS 19
abbrev N_law : List Str := ["_law_script", "_law_state", "_law_way", "_law_text", "_law_words", "_law_more", "_law_at", "_law_size", "_law_long", "_law_sure", "_law_found", "_law_word"]
theorem sc_law : FnScope N_law ["_law_script"] (defScope s_law) := ⟨rfl, rfl, rfl, by decide +kernel, rfl, by decide +kernel, by decide +kernel⟩
def hit_LoomError (c : Nat) : Option Bool := match c with
  | 2 => some true
  | _ => none
def kis (c : Nat) (n : CN) : Option Bool := match c, n with
  | 2, .own 4 => some false
  | 2, .own 3 => some false
  | 2, .own 1 => some false
  | 2, .own 6 => some false
  | 2, .own 5 => some false
  | 2, .own 2 => some true
  | 2, .ty "ValueError" => some true
  | _, _ => none
noncomputable def m__law_cell_at : MS := seqS (ifS (cmpM ltD (varE 1) (newL lenV (consA (varE 0) (nilA)))) (retS (binE ixD (varE 0) (varE 1))) (nilS)) (retS (conE (.int 0)))
noncomputable def F__law_cell_at : List D → Store → R D := bodyF N__law_cell_at.length m__law_cell_at
noncomputable def m__law_next : MS := seqS (asgS (subT (varE 0) (conE (.str (Str.ofString "at")))) (binE addD (binE ixD (varE 0) (conE (.str (Str.ofString "at")))) (conE (.int 1)))) (seqS (setS 1 (binE ixD (varE 0) (conE (.str (Str.ofString "at"))))) (seqS (setS 2 (callE 2 F__law_cell_at (consA (binE ixD (varE 0) (conE (.str (Str.ofString "cells")))) (consA (binE modD (varE 1) (newL maxV (consA (conE (.int 1)) (consA (newL lenV (consA (binE ixD (varE 0) (conE (.str (Str.ofString "cells")))) (nilA))) (nilA))))) (nilA))))) (retS (binE fdivD (binE modD (binE addD (binE mulD (varE 2) (conE (.int 48271))) (binE mulD (binE mulD (varE 1) (varE 1)) (conE (.int 69621)))) (conE (.int 2147483647))) (conE (.int 8))))))
noncomputable def F__law_next : List D → Store → R D := bodyF N__law_next.length m__law_next
noncomputable def m__law_signs : MS := retS (binE addD (conE (.str (Str.ofString "!\"#$&'*+,-./0123456789:;<=>?@ABCDEFGHIJKLMNOPQRSTUVWXYZ[\\]^_"))) (conE (.str (Str.ofString "`abcdefghijklmnopqrstuvwxyz{|}~"))))
noncomputable def F__law_signs : List D → Store → R D := bodyF N__law_signs.length m__law_signs
noncomputable def b__law_made_0 : MS := seqS (setS 5 (callE 1 F__law_next (consA (varE 0) (nilA)))) (seqS (setS 6 (callE 0 F__law_signs nilA)) (seqS (setS 7 (joinN (conE (.str (Str.ofString ""))) (compN (srcR1 (consA (binE addD (conE (.int 1)) (binE modD (binE fdivD (varE 5) (conE (.int 10))) (conE (.int 9)))) (nilA))) (.one 8) (yesM) (binE ixD (varE 6) (binE modD (binE addD (binE fdivD (varE 5) (conE (.int 90))) (binE mulD (binE mulD (conE (.int 13)) (varE 8)) (varE 8))) (newL lenV (consA (varE 6) (nilA)))))))) (seqS (ifS (andM (cmpM ltD (binE modD (varE 5) (conE (.int 10))) (conE (.int 5))) (notM (ofV (varE 3)))) (seqS (exprS (lmE appendM (varE 2) (consA (varE 7) (nilA)))) (setS 1 (binE addD (varE 1) (varE 7)))) (seqS (setS 7 (binE ixD (allocE (lstN (consA (conE (.str (Str.ofString "("))) (consA (conE (.str (Str.ofString ")"))) (consA (conE (.str (Str.ofString " "))) (consA (conE (.str (Str.ofString "\n"))) (consA (conE (.str (Str.ofString "  "))) (consA (conE (.str (Str.ofString " \n"))) (nilA))))))))) (binE modD (binE fdivD (varE 5) (conE (.int 10))) (conE (.int 6))))) (seqS (setS 1 (binE addD (varE 1) (varE 7))) (ifS (cmpM inD (varE 7) (tupE (consA (conE (.str (Str.ofString "("))) (consA (conE (.str (Str.ofString ")"))) (nilA))))) (exprS (lmE appendM (varE 2) (consA (varE 7) (nilA)))) (nilS))))) (setS 3 (andV (ofV (toV (cmpM ltD (binE modD (varE 5) (conE (.int 10))) (conE (.int 5))))) (toV (notM (ofV (varE 3)))))))))
noncomputable def m__law_made : MS := seqS (setS 1 (conE (.str (Str.ofString "")))) (seqS (setS 2 (allocE (lstN (nilA)))) (seqS (setS 3 (conE (.bl false))) (seqS (forS (srcR1 (consA (binE modD (callE 1 F__law_next (consA (varE 0) (nilA))) (conE (.int 60))) (nilA))) (nameT 4) (b__law_made_0)) (retS (tupE (consA (varE 1) (consA (varE 2) (nilA))))))))
noncomputable def F__law_made : List D → Store → R D := bodyF N__law_made.length m__law_made
noncomputable def b_need_text_0 : MS := ifS (andM (cmpM neD (varE 1) (conE (.str (Str.ofString "\n")))) (orM (notM (chainM leD leD (conE (.str (Str.ofString " "))) (varE 1) (conE (.str (Str.ofString "~"))))) (cmpM eqD (newL ordV (consA (varE 1) (nilA))) (conE (.int 37))))) (raiseS 2) (nilS)
noncomputable def m_need_text : MS := seqS (ifS (orM (notM (ofV (toV (isE "str" (varE 0))))) (cmpM gtD (newL lenV (consA (varE 0) (nilA))) (conE (.int 6000)))) (raiseS 2) (nilS)) (forS (srcV (varE 0)) (nameT 1) (b_need_text_0))
noncomputable def F_need_text : List D → Store → R D := bodyF N_need_text.length m_need_text
noncomputable def b_words_of_0 : MS := ifS (cmpM inD (varE 3) (conE (.str (Str.ofString "() \n")))) (seqS (ifS (cmpM neD (varE 2) (conE (.str (Str.ofString "")))) (exprS (lmE appendM (varE 1) (consA (varE 2) (nilA)))) (nilS)) (seqS (setS 2 (conE (.str (Str.ofString "")))) (ifS (cmpM inD (varE 3) (conE (.str (Str.ofString "()")))) (exprS (lmE appendM (varE 1) (consA (varE 3) (nilA)))) (nilS)))) (setS 2 (binE addD (varE 2) (varE 3)))
noncomputable def m_words_of : MS := seqS (exprS (callE 1 F_need_text (consA (varE 0) (nilA)))) (seqS (setS 1 (allocE (lstN (nilA)))) (seqS (setS 2 (conE (.str (Str.ofString "")))) (seqS (forS (srcV (binE addD (varE 0) (conE (.str (Str.ofString " "))))) (nameT 3) (b_words_of_0)) (retS (varE 1)))))
noncomputable def F_words_of : List D → Store → R D := bodyF N_words_of.length m_words_of
noncomputable def m__law_refused : MS := seqS (catchS hit_LoomError 1 (exprS (callE 1 F_words_of (consA (varE 0) (nilA)))) (fun a z => seqS (setS 2 (orV (ofV (toV (isX (kisA kis z [(.own 1), (.own 3), (.own 4)]) a (varE 1)))) (toV (isX (kisA kis z [(.own 5), (.own 6)]) a (varE 1))))) (retS (andV (ofV (toV (isX (kisX kis z (.own 2)) a (varE 1)))) (andV (ofV (toV (isX (kisX kis z (.ty "ValueError")) a (varE 1)))) (toV (notM (ofV (varE 2))))))))) (retS (conE (.bl false)))
noncomputable def F__law_refused : List D → Store → R D := bodyF N__law_refused.length m__law_refused
noncomputable def m_law : MS := seqS (setS 1 (dictE (consP (conE (.str (Str.ofString "cells"))) (varE 0) (consP (conE (.str (Str.ofString "at"))) (conE (.int 0)) (nilP))))) (seqS (setS 2 (callE 1 F__law_next (consA (varE 1) (nilA)))) (seqS (asgS (namesT [3, 4]) (callE 1 F__law_made (consA (varE 1) (nilA)))) (seqS (setS 5 (callE 1 F__law_next (consA (varE 1) (nilA)))) (seqS (ifS (cmpM eqD (binE modD (varE 2) (conE (.int 9))) (conE (.int 1))) (retS (callE 1 F__law_refused (consA (binE ixD (allocE (lstN (consA (conE .non) (consA (conE (.int 5)) (consA (allocE (lstN (consA (conE (.str (Str.ofString "a"))) (nilA)))) (consA (tupE (consA (conE (.str (Str.ofString "("))) (consA (conE (.str (Str.ofString ")"))) (nilA)))) (consA (conE (.bl true)) (consA (varE 4) (nilA))))))))) (binE modD (varE 5) (conE (.int 6)))) (nilA)))) (nilS)) (seqS (ifS (cmpM eqD (binE modD (varE 2) (conE (.int 9))) (conE (.int 2))) (seqS (setS 6 (binE modD (varE 5) (binE addD (newL lenV (consA (varE 3) (nilA))) (conE (.int 1))))) (retS (callE 1 F__law_refused (consA (binE addD (binE addD (sliceE (varE 3) (noO) (someO (varE 6))) (conE (.str (Str.ofString "\t")))) (sliceE (varE 3) (someO (varE 6)) (noO))) (nilA))))) (nilS)) (seqS (ifS (cmpM eqD (binE modD (varE 2) (conE (.int 9))) (conE (.int 3))) (seqS (setS 7 (binE addD (conE (.int 5999)) (binE modD (varE 5) (conE (.int 4))))) (seqS (setS 8 (sliceE (binE addD (varE 3) (binE mulD (conE (.str (Str.ofString " x"))) (conE (.int 3001)))) (noO) (someO (varE 7)))) (seqS (ifS (cmpM gtD (varE 7) (conE (.int 6000))) (retS (callE 1 F__law_refused (consA (varE 8) (nilA)))) (nilS)) (seqS (setS 9 (newL maxV (consA (conE (.int 0)) (consA (binE subD (newL lenV (consA (varE 4) (nilA))) (conE (.int 1))) (nilA))))) (retS (toV (cmpM eqD (sliceE (callE 1 F_words_of (consA (varE 8) (nilA))) (noO) (someO (varE 9))) (sliceE (varE 4) (noO) (someO (varE 9)))))))))) (nilS)) (seqS (setS 10 (callE 1 F_words_of (consA (varE 3) (nilA)))) (seqS (ifS (orM (notM (ofV (toV (isE "list" (varE 10))))) (orM (cmpM neD (varE 10) (varE 4)) (notM (ofV (newL allL (compN (srcV (varE 10)) (.one 11) (yesM) (toV (isE "str" (varE 11))))))))) (retS (conE (.bl false))) (nilS)) (seqS (exprS (lmE appendM (varE 10) (consA (conE (.str (Str.ofString ""))) (nilA)))) (retS (andV (ofV (toV (cmpM eqD (callE 1 F_words_of (consA (varE 3) (nilA))) (varE 4)))) (toV (cmpM eqD (varE 10) (binE addD (varE 4) (allocE (lstN (consA (conE (.str (Str.ofString ""))) (nilA))))))))))))))))))
noncomputable def F_law : List D → Store → R D := bodyF N_law.length m_law
structure Txt (K : PySem.W.Frag) (mg : Str → Option Value) (cA : Nat → Addr) : Prop where
  e_BadText : ExcK K mg "BadText" (cA 2)
  n_LoomError : mg "LoomError" = some (.ref (cA 0))
  n_BadCount : mg "BadCount" = some (.ref (cA 4))
  n_BadName : mg "BadName" = some (.ref (cA 3))
  n_BadTree : mg "BadTree" = some (.ref (cA 1))
  n_NoThing : mg "NoThing" = some (.ref (cA 6))
  n_BadCode : mg "BadCode" = some (.ref (cA 5))
  n_BadText : mg "BadText" = some (.ref (cA 2))
  h_LoomError : ∀ k b, hit_LoomError k = some b → PySem.W.exmOne K (.ref (cA k)) (.ref (cA 0)) = some b
  isf : IsFacts K cA kis
  b_ValueError : mg "ValueError" = none
  b_all : mg "all" = none
  b_isinstance : mg "isinstance" = none
  b_len : mg "len" = none
  b_list : mg "list" = none
  b_max : mg "max" = none
  b_ord : mg "ord" = none
  b_range : mg "range" = none
  b_str : mg "str" = none
  g_MOST_SIGNS : ∃ t, mg "MOST_SIGNS" = some (.int 6000 t)
  g_PERCENT : ∃ t, mg "PERCENT" = some (.int 37 t)
section
variable {P : Program} {w : World} {K : PySem.W.Frag} {mg : Str → Option Value} {base : Heap} {cA : Nat → Addr}
theorem ok__law_cell_at {f : Addr} {fd : FuncData} (F : Fun K "_law_cell_at" "_law_cell_at" s__law_cell_at f fd) (T : Txt K mg cA)  : FnOk P w K mg base (L2.CX P w) 1 f fd ["_law_script", "_law_k"] (spM K cA F__law_cell_at 2) :=
  defM F sc__law_cell_at fun cdv A outer s H E hr => by
    unfold m__law_cell_at
    exact (scons (sif (mcmpT op_ltM (mvar (i := 1) rfl (.inl rfl)) (mcallV st_V c_lenV rfl T.b_len bt_len (acons (mvar (i := 0) rfl (.inl rfl)) anil)) (nomark _)) (sone (sret (mix (hu_of hr) (mvar (i := 0) rfl (.inl rfl)) (mvar (i := 1) rfl (.inl rfl))))) snil) (sone (sret mint)))
theorem ok__law_next {f : Addr} {fd : FuncData} (F : Fun K "_law_next" "_law_next" s__law_next f fd) (T : Txt K mg cA) (C__law_cell_at : FnM P w K mg base cA 1 "_law_cell_at" 2 F__law_cell_at) : FnOk P w K mg base (L2.CX P w) 2 f fd ["_law_state"] (spM K cA F__law_next 1) :=
  defM F sc__law_next fun cdv A outer s H E hr => by
    unfold m__law_next
    exact (scons (sasg (mbin op_addM (mix (hu_of hr) (mvar (i := 0) rfl (.inl rfl)) mstr) mint) (gsub (hu_of hr) (mvar (i := 0) rfl (.inl rfl)) mstr)) (scons (sset (i := 1) sc__law_next.nd rfl (.inl rfl) (mix (hu_of hr) (mvar (i := 0) rfl (.inl rfl)) mstr)) (scons (sset (i := 2) sc__law_next.nd rfl (.inl rfl) (mcall C__law_cell_at (by decide) hr pass_def rfl (acons (mix (hu_of hr) (mvar (i := 0) rfl (.inl rfl)) mstr) (acons (mbin op_modM (mvar (i := 1) rfl (.inl rfl)) (mcallV st_V (c_max rfl) rfl T.b_max bt_max (acons mint (acons (mcallV st_V c_lenV rfl T.b_len bt_len (acons (mix (hu_of hr) (mvar (i := 0) rfl (.inl rfl)) mstr) anil)) anil)))) anil)))) (sone (sret (mbin op_fdivM (mbin op_modM (mbin op_addM (mbin op_mulM (mvar (i := 2) rfl (.inl rfl)) mint) (mbin op_mulM (mbin op_mulM (mvar (i := 1) rfl (.inl rfl)) (mvar (i := 1) rfl (.inl rfl))) mint)) mint) mint))))))
theorem ok__law_signs {f : Addr} {fd : FuncData} (F : Fun K "_law_signs" "_law_signs" s__law_signs f fd) (T : Txt K mg cA)  : FnOk P w K mg base (L2.CX P w) 1 f fd [] (spM K cA F__law_signs 0) :=
  defM F sc__law_signs fun cdv A outer s H E hr => by
    unfold m__law_signs
    exact (sone (sret (mbin op_addM mstr mstr)))
theorem ok__law_made {f : Addr} {fd : FuncData} (F : Fun K "_law_made" "_law_made" s__law_made f fd) (T : Txt K mg cA) (C__law_next : FnM P w K mg base cA 2 "_law_next" 1 F__law_next) (C__law_signs : FnM P w K mg base cA 1 "_law_signs" 0 F__law_signs) : FnOk P w K mg base (L2.CX P w) 3 f fd ["_law_state"] (spM K cA F__law_made 1) :=
  defM F sc__law_made fun cdv A outer s H E hr => by
    unfold m__law_made
    exact (scons (sset (i := 1) sc__law_made.nd rfl (.inl rfl) mstr) (scons (sset (i := 2) sc__law_made.nd rfl (.inl rfl) (malloc (mlst anil))) (scons (sset (i := 3) sc__law_made.nd rfl (.inl rfl) mbl) (scons (sfor own_def rfl (irng1 rfl T.b_range (acons (mbin op_modM (mcall C__law_next (by decide) hr pass_def rfl (acons (mvar (i := 0) rfl (.inl rfl)) anil)) mint) anil)) (gname (i := 4) sc__law_made.nd rfl (.inl rfl)) (scons (sset (i := 5) sc__law_made.nd rfl (.inr rfl) (mcall C__law_next (by decide) hr pass_def rfl (acons (mvar (i := 0) rfl (.inl rfl)) anil))) (scons (sset (i := 6) sc__law_made.nd rfl (.inr rfl) (mcall0 C__law_signs (by decide) hr pass_def rfl)) (scons (sset (i := 7) sc__law_made.nd rfl (.inl rfl) (mjoin mstr (mcomp (t := .one 8) (own := [("_law_k", 8)]) rfl rfl sc__law_made.nd (irng1 rfl T.b_range (acons (mbin op_addM mint (mbin op_modM (mbin op_fdivM (mvar (i := 5) rfl (.inr (.inl rfl))) mint) mint)) anil)) (blkOk_by (N := N__law_made) (sc := defScope s__law_made) (by decide +kernel)) (fun _ _ _ _ _ => pg_name (i := 8) sc__law_made.nd rfl (Or.inl rfl)) (fun _ _ _ _ _ => tyes) (fun _ _ _ _ _ => (mix (hu_of hr) (mvar (i := 6) rfl (by first | exact .inr (.inr rfl) | exact .inr (.inl rfl) | exact .inl rfl)) (mbin op_modM (mbin op_addM (mbin op_fdivM (mvar (i := 5) rfl (by first | exact .inr (.inr rfl) | exact .inr (.inl rfl) | exact .inl rfl)) mint) (mbin op_mulM (mbin op_mulM mint (mvar (i := 8) rfl (.inl rfl))) (mvar (i := 8) rfl (.inl rfl)))) (mcallV st_V c_lenV rfl T.b_len bt_len (acons (mvar (i := 6) rfl (by first | exact .inr (.inr rfl) | exact .inr (.inl rfl) | exact .inl rfl)) anil)))))))) (scons (sif (PW.pt (mandT (mcmpT op_ltM (mbin op_modM (mvar (i := 5) rfl (.inr (.inl rfl))) mint) mint (nomark _)) (mand1 (mnotT (mval (mvar (i := 3) rfl (.inl rfl))))))) (scons (sexpr (mlm PySem.F.slot_list_append PySem.F.type_list_append mt_appendM (mvar (i := 2) rfl (.inl rfl)) (acons (mvar (i := 7) rfl (.inl rfl)) anil))) (sone (sset (i := 1) sc__law_made.nd rfl (.inl rfl) (mbin op_addM (mvar (i := 1) rfl (.inl rfl)) (mvar (i := 7) rfl (.inl rfl)))))) (scons (sset (i := 7) sc__law_made.nd rfl (.inl rfl) (mix (hu_of hr) (malloc (mlst (acons mstr (acons mstr (acons mstr (acons mstr (acons mstr (acons mstr anil)))))))) (mbin op_modM (mbin op_fdivM (mvar (i := 5) rfl (.inr (.inl rfl))) mint) mint))) (scons (sset (i := 1) sc__law_made.nd rfl (.inl rfl) (mbin op_addM (mvar (i := 1) rfl (.inl rfl)) (mvar (i := 7) rfl (.inl rfl)))) (sone (sif (mcmpT (op_inM (hu_of hr)) (mvar (i := 7) rfl (.inl rfl)) (mtup (acons mstr (acons mstr anil))) rfl) (sone (sexpr (mlm PySem.F.slot_list_append PySem.F.type_list_append mt_appendM (mvar (i := 2) rfl (.inl rfl)) (acons (mvar (i := 7) rfl (.inl rfl)) anil)))) snil))))) (sone (sset (i := 3) sc__law_made.nd rfl (.inl rfl) (mand (mcmp op_ltM (mbin op_modM (mvar (i := 5) rfl (.inr (.inl rfl))) mint) mint (nomark _)) (mone (mnot (mvar (i := 3) rfl (.inl rfl)))))))))))) (sone (sret (mtup (acons (mvar (i := 1) rfl (.inl rfl)) (acons (mvar (i := 2) rfl (.inl rfl)) anil)))))))))
theorem ok_need_text {f : Addr} {fd : FuncData} (F : Fun K "need_text" "need_text" s_need_text f fd) (T : Txt K mg cA)  : FnOk P w K mg base (L2.CX P w) 1 f fd ["text"] (spM K cA F_need_text 1) :=
  defM F sc_need_text fun cdv A outer s H E hr => by
    unfold m_need_text
    exact (scons (sif (PW.pt (morT (mnotT (mval (misi ok_str (mvar (i := 0) rfl (.inl rfl)) rfl T.b_isinstance rfl T.b_str bt_str bt_isinstance))) (mor1 (mcmpT op_gtM (mcallV st_V c_lenV rfl T.b_len bt_len (acons (mvar (i := 0) rfl (.inl rfl)) anil)) (mgint rfl T.g_MOST_SIGNS) (nomark _))))) (sone (sraise (k := 2) T.e_BadText (takes_of rfl rfl rfl rfl) rfl rfl)) snil) (sone (sfor own_def rfl (isrc (mvar (i := 0) rfl (.inl rfl))) (gname (i := 1) sc_need_text.nd rfl (.inl rfl)) (sone (sif (PW.pt (mandT (mcmpT (op_neM hr.units) (mvar (i := 1) rfl (.inl rfl)) mstr (nomark _)) (mand1 (PW.pt (morT (mnotT (mchainT op_leM op_leM mstr (mvar (i := 1) rfl (.inl rfl)) mstr)) (mor1 (mcmpT (op_eqM hr.units) (mcallV st_V c_ord rfl T.b_ord bt_ord (acons (mvar (i := 1) rfl (.inl rfl)) anil)) (mgint rfl T.g_PERCENT) (nomark _)))))))) (sone (sraise (k := 2) T.e_BadText (takes_of rfl rfl rfl rfl) rfl rfl)) snil)))))
theorem ok_words_of {f : Addr} {fd : FuncData} (F : Fun K "words_of" "words_of" s_words_of f fd) (T : Txt K mg cA) (C_need_text : FnM P w K mg base cA 1 "need_text" 1 F_need_text) : FnOk P w K mg base (L2.CX P w) 2 f fd ["text"] (spM K cA F_words_of 1) :=
  defM F sc_words_of fun cdv A outer s H E hr => by
    unfold m_words_of
    exact (scons (sexpr (mcall C_need_text (by decide) hr pass_def rfl (acons (mvar (i := 0) rfl (.inl rfl)) anil))) (scons (sset (i := 1) sc_words_of.nd rfl (.inl rfl) (malloc (mlst anil))) (scons (sset (i := 2) sc_words_of.nd rfl (.inl rfl) mstr) (scons (sfor own_def rfl (isrc (mbin op_addM (mvar (i := 0) rfl (.inl rfl)) mstr)) (gname (i := 3) sc_words_of.nd rfl (.inl rfl)) (sone (sif (mcmpT (op_inM (hu_of hr)) (mvar (i := 3) rfl (.inl rfl)) mstr rfl) (scons (sif (mcmpT (op_neM hr.units) (mvar (i := 2) rfl (.inl rfl)) mstr (nomark _)) (sone (sexpr (mlm PySem.F.slot_list_append PySem.F.type_list_append mt_appendM (mvar (i := 1) rfl (.inl rfl)) (acons (mvar (i := 2) rfl (.inl rfl)) anil)))) snil) (scons (sset (i := 2) sc_words_of.nd rfl (.inl rfl) mstr) (sone (sif (mcmpT (op_inM (hu_of hr)) (mvar (i := 3) rfl (.inl rfl)) mstr rfl) (sone (sexpr (mlm PySem.F.slot_list_append PySem.F.type_list_append mt_appendM (mvar (i := 1) rfl (.inl rfl)) (acons (mvar (i := 3) rfl (.inl rfl)) anil)))) snil)))) (sone (sset (i := 2) sc_words_of.nd rfl (.inl rfl) (mbin op_addM (mvar (i := 2) rfl (.inl rfl)) (mvar (i := 3) rfl (.inl rfl)))))))) (sone (sret (mvar (i := 1) rfl (.inl rfl))))))))
theorem ok__law_refused {f : Addr} {fd : FuncData} (F : Fun K "_law_refused" "_law_refused" s__law_refused f fd) (T : Txt K mg cA) (C_words_of : FnM P w K mg base cA 2 "words_of" 1 F_words_of) : FnOk P w K mg base (L2.CX P w) 3 f fd ["_law_text"] (spM K cA F__law_refused 1) :=
  defM F sc__law_refused fun cdv A outer s H E hr => by
    unfold m__law_refused
    exact (scons (stry (i := 1) T.h_LoomError sc__law_refused.nd rfl ⟨rfl, by decide, .inl T.n_LoomError⟩ (takes_of rfl rfl rfl rfl) (fun W1 pn xe tk hp => (xone (xexpr (xcall C_words_of (by decide) hr tk rfl (fun _ => (acons (mvar (i := 0) rfl (.inl rfl)) anil)))))) (fun a oe pn z d hz hd hf => (scons (sset (i := 2) sc__law_refused.nd rfl (.inl rfl) (mor (misEt (n := (.own 1)) (ns := [(.own 3), (.own 4)]) T.isf hz hd hf (mvar (i := 1) rfl (.inl rfl)) (vcons (cown (j := 1) T.n_BadTree rfl) (vcons (cown (j := 3) T.n_BadName rfl) (vcons (cown (j := 4) T.n_BadCount rfl) vnil))) (by decide) rfl T.b_isinstance) (mone (misEt (n := (.own 5)) (ns := [(.own 6)]) T.isf hz hd hf (mvar (i := 1) rfl (.inl rfl)) (vcons (cown (j := 5) T.n_BadCode rfl) (vcons (cown (j := 6) T.n_NoThing rfl) vnil)) (by decide) rfl T.b_isinstance)))) (sone (sret (mand (misE T.isf hz hd hf (mvar (i := 1) rfl (.inl rfl)) (cown (j := 2) T.n_BadText rfl) rfl T.b_isinstance) (mand (misE T.isf hz hd hf (mvar (i := 1) rfl (.inl rfl)) (cty (n := "ValueError") T.b_ValueError (by decide +kernel) rfl) rfl T.b_isinstance) (mone (mnot (mvar (i := 2) rfl (.inl rfl))))))))))) (sone (sret mbl)))
theorem ok_law {f : Addr} {fd : FuncData} (F : Fun K "law" "law" s_law f fd) (T : Txt K mg cA) (C__law_made : FnM P w K mg base cA 3 "_law_made" 1 F__law_made) (C__law_next : FnM P w K mg base cA 2 "_law_next" 1 F__law_next) (C__law_refused : FnM P w K mg base cA 3 "_law_refused" 1 F__law_refused) (C_words_of : FnM P w K mg base cA 2 "words_of" 1 F_words_of) : FnOk P w K mg base (L2.CX P w) 4 f fd ["_law_script"] (spM K cA F_law 1) :=
  defM F sc_law fun cdv A outer s H E hr => by
    unfold m_law
    exact (scons (sset (i := 1) sc_law.nd rfl (.inl rfl) (mdict (pcons mstr (mvar (i := 0) rfl (.inl rfl)) (pcons mstr mint pnil)))) (scons (sset (i := 2) sc_law.nd rfl (.inl rfl) (mcall C__law_next (by decide) hr pass_def rfl (acons (mvar (i := 1) rfl (.inl rfl)) anil))) (scons (sasg (mcall C__law_made (by decide) hr pass_def rfl (acons (mvar (i := 1) rfl (.inl rfl)) anil)) (gnames rfl (pgs_cons (pg_name (i := 3) sc_law.nd rfl (.inl rfl)) (pgs_cons (pg_name (i := 4) sc_law.nd rfl (.inl rfl)) pgs_nil)))) (scons (sset (i := 5) sc_law.nd rfl (.inl rfl) (mcall C__law_next (by decide) hr pass_def rfl (acons (mvar (i := 1) rfl (.inl rfl)) anil))) (scons (sif (mcmpT (op_eqM hr.units) (mbin op_modM (mvar (i := 2) rfl (.inl rfl)) mint) mint (nomark _)) (sone (sret (mcall C__law_refused (by decide) hr pass_def rfl (acons (mix (hu_of hr) (malloc (mlst (acons mnon (acons mint (acons (malloc (mlst (acons mstr anil))) (acons (mtup (acons mstr (acons mstr anil))) (acons mbl (acons (mvar (i := 4) rfl (.inl rfl)) anil)))))))) (mbin op_modM (mvar (i := 5) rfl (.inl rfl)) mint)) anil)))) snil) (scons (sif (mcmpT (op_eqM hr.units) (mbin op_modM (mvar (i := 2) rfl (.inl rfl)) mint) mint (nomark _)) (scons (sset (i := 6) sc_law.nd rfl (.inl rfl) (mbin op_modM (mvar (i := 5) rfl (.inl rfl)) (mbin op_addM (mcallV st_V c_lenV rfl T.b_len bt_len (acons (mvar (i := 3) rfl (.inl rfl)) anil)) mint))) (sone (sret (mcall C__law_refused (by decide) hr pass_def rfl (acons (mbin op_addM (mbin op_addM (mslice (mvar (i := 3) rfl (.inl rfl)) ono (osome (mvar (i := 6) rfl (.inl rfl)))) mstr) (mslice (mvar (i := 3) rfl (.inl rfl)) (osome (mvar (i := 6) rfl (.inl rfl))) ono)) anil))))) snil) (scons (sif (mcmpT (op_eqM hr.units) (mbin op_modM (mvar (i := 2) rfl (.inl rfl)) mint) mint (nomark _)) (scons (sset (i := 7) sc_law.nd rfl (.inl rfl) (mbin op_addM mint (mbin op_modM (mvar (i := 5) rfl (.inl rfl)) mint))) (scons (sset (i := 8) sc_law.nd rfl (.inl rfl) (mslice (mbin op_addM (mvar (i := 3) rfl (.inl rfl)) (mbin op_mulM mstr mint)) ono (osome (mvar (i := 7) rfl (.inl rfl))))) (scons (sif (mcmpT op_gtM (mvar (i := 7) rfl (.inl rfl)) mint (nomark _)) (sone (sret (mcall C__law_refused (by decide) hr pass_def rfl (acons (mvar (i := 8) rfl (.inl rfl)) anil)))) snil) (scons (sset (i := 9) sc_law.nd rfl (.inl rfl) (mcallV st_V (c_max rfl) rfl T.b_max bt_max (acons mint (acons (mbin op_subM (mcallV st_V c_lenV rfl T.b_len bt_len (acons (mvar (i := 4) rfl (.inl rfl)) anil)) mint) anil)))) (sone (sret (mcmp (op_eqM hr.units) (mslice (mcall C_words_of (by decide) hr pass_def rfl (acons (mvar (i := 8) rfl (.inl rfl)) anil)) ono (osome (mvar (i := 9) rfl (.inl rfl)))) (mslice (mvar (i := 4) rfl (.inl rfl)) ono (osome (mvar (i := 9) rfl (.inl rfl)))) (nomark _)))))))) snil) (scons (sset (i := 10) sc_law.nd rfl (.inl rfl) (mcall C_words_of (by decide) hr pass_def rfl (acons (mvar (i := 3) rfl (.inl rfl)) anil))) (scons (sif (PW.pt (morT (mnotT (mval (misi ok_list (mvar (i := 10) rfl (.inl rfl)) rfl T.b_isinstance rfl T.b_list bt_list bt_isinstance))) (morT (mcmpT (op_neM hr.units) (mvar (i := 10) rfl (.inl rfl)) (mvar (i := 4) rfl (.inl rfl)) (nomark _)) (mor1 (mnotT (mval (mcallN st_V (c_all rfl) rfl T.b_all bt_all (mcomp (t := .one 11) (own := [("_law_word", 11)]) rfl rfl sc_law.nd (isrc (mvar (i := 10) rfl (.inl rfl))) (blkOk_by (N := N_law) (sc := defScope s_law) (by decide +kernel)) (fun _ _ _ _ _ => pg_name (i := 11) sc_law.nd rfl (Or.inl rfl)) (fun _ _ _ _ _ => tyes) (fun _ _ _ _ _ => (misi ok_str (mvar (i := 11) rfl (.inl rfl)) rfl T.b_isinstance rfl T.b_str bt_str bt_isinstance)))))))))) (sone (sret mbl)) snil) (scons (sexpr (mlm PySem.F.slot_list_append PySem.F.type_list_append mt_appendM (mvar (i := 10) rfl (.inl rfl)) (acons mstr anil))) (sone (sret (mand (mcmp (op_eqM hr.units) (mcall C_words_of (by decide) hr pass_def rfl (acons (mvar (i := 3) rfl (.inl rfl)) anil)) (mvar (i := 4) rfl (.inl rfl)) (nomark _)) (mone (mcmp (op_eqM hr.units) (mvar (i := 10) rfl (.inl rfl)) (mbin op_addM (mvar (i := 4) rfl (.inl rfl)) (malloc (mlst (acons mstr anil)))) (nomark _))))))))))))))))
end
end K04

set_option Elab.async false
set_option linter.all false
set_option maxRecDepth 100000
set_option autoImplicit false
namespace K04
open PySem PySem.Spec L2 ML
/-! ### words -/
def good (c : Nat) : Prop := c = 10 ∨ (32 ≤ c ∧ c ≤ 126 ∧ c ≠ 37)
instance (c : Nat) : Decidable (good c) := by unfold good; infer_instance
def sep (c : Nat) : Bool := decide (c = 40 ∨ c = 41 ∨ c = 32 ∨ c = 10)
def br (c : Nat) : Bool := decide (c = 40 ∨ c = 41)
abbrev WS := List (List Nat) × List Nat
def flush (s : WS) : List (List Nat) := s.1 ++ (if s.2 = [] then [] else [s.2])
def stepW (s : WS) (c : Nat) : WS := if sep c = true then (flush s ++ (if br c = true then [[c]] else []), []) else (s.1, s.2 ++ [c])
def runW (l : List Nat) : WS := l.foldl stepW ([], [])
def wordsOf (l : List Nat) : List (List Nat) := (runW (l ++ [32])).1
theorem step_sep {s : WS} {c : Nat} (h : sep c = true) : stepW s c = (flush s ++ (if br c = true then [[c]] else []), []) := if_pos h
theorem step_no {s : WS} {c : Nat} (h : sep c = false) : stepW s c = (s.1, s.2 ++ [c]) := if_neg (by rw [h]; simp)
theorem wordsOf_eq (l : List Nat) : wordsOf l = flush (runW l) := by
  unfold wordsOf runW
  rw [List.foldl_append]
  show (stepW (runW l) 32).1 = _
  rw [step_sep (by decide)]
  simp [br]
  rfl
theorem run_nosep : ∀ (p : List Nat) (s : WS), (∀ c ∈ p, sep c = false) → p.foldl stepW s = (s.1, s.2 ++ p)
  | [], s, _ => by simp
  | c :: p, s, h => by
    rw [List.foldl_cons, step_no (h c List.mem_cons_self), run_nosep p _ fun x hx => h x (List.mem_cons_of_mem _ hx)]
    simp
theorem step_pre (s : WS) (c : Nat) : ∃ t, (stepW s c).1 = s.1 ++ t := by
  unfold stepW flush
  split
  · exact ⟨(if s.2 = [] then [] else [s.2]) ++ (if br c = true then [[c]] else []), by simp⟩
  · exact ⟨[], by simp⟩
theorem run_pre : ∀ (l : List Nat) (s : WS), ∃ t, (l.foldl stepW s).1 = s.1 ++ t
  | [], s => ⟨[], by simp⟩
  | c :: l, s => by
    obtain ⟨t, h⟩ := step_pre s c
    obtain ⟨u, hu⟩ := run_pre l (stepW s c)
    exact ⟨t ++ u, by rw [List.foldl_cons, hu, h, List.append_assoc]⟩
/-- all signs of the words are signs of the text -/
theorem step_ok {s : WS} {c : Nat} (hc : c < 1114112) (h1 : ∀ w ∈ s.1, okT w) (h2 : okT s.2) : (∀ w ∈ (stepW s c).1, okT w) ∧ okT (stepW s c).2 := by
  unfold stepW flush
  split
  · refine ⟨fun w hw => ?_, fun x hx => by simp at hx⟩
    simp only [List.mem_append] at hw
    rcases hw with (hw | hw) | hw
    · exact h1 w hw
    · split at hw
      · simp at hw
      · simp at hw; subst hw; exact h2
    · split at hw
      · simp at hw
        subst hw
        intro x hx
        simp at hx
        omega
      · simp at hw
  · refine ⟨h1, fun x hx => ?_⟩
    simp only [List.mem_append, List.mem_singleton] at hx
    rcases hx with hx | hx
    · exact h2 x hx
    · omega
theorem run_ok : ∀ (l : List Nat) (s : WS), (∀ c ∈ l, c < 1114112) → (∀ w ∈ s.1, okT w) → okT s.2 → (∀ w ∈ (l.foldl stepW s).1, okT w) ∧ okT (l.foldl stepW s).2
  | [], s, _, h1, h2 => ⟨h1, h2⟩
  | c :: l, s, h, h1, h2 => by
    obtain ⟨a, b⟩ := step_ok (h c List.mem_cons_self) h1 h2
    exact run_ok l _ (fun x hx => h x (List.mem_cons_of_mem _ hx)) a b
theorem good_lt {c : Nat} (h : good c) : c < 1114112 := by unfold good at h; omega
theorem words_ok {l : List Nat} (h : ∀ c ∈ l, good c) : ∀ w ∈ wordsOf l, okT w := by
  refine (run_ok (l ++ [32]) ([], []) (fun c hc => ?_) (fun w hw => by simp at hw) (fun c hc => by simp at hc)).1
  rcases List.mem_append.mp hc with hc | hc
  · exact good_lt (h c hc)
  · simp at hc; omega
/-! ### need_text -/
theorem cNL : cs (Str.ofString "\n") = [10] := by rw [cs_of]; rfl
theorem cSP : cs (Str.ofString " ") = [32] := by rw [cs_of]; rfl
theorem cTI : cs (Str.ofString "~") = [126] := by rw [cs_of]; rfl
theorem cSEP : cs (Str.ofString "() \n") = [40, 41, 32, 10] := by rw [cs_of]; rfl
theorem cBR : cs (Str.ofString "()") = [40, 41] := by rw [cs_of]; rfl
noncomputable abbrev nb : MS := b_need_text_0
theorem nb_eq (x0 : Option D) (c : Nat) (S : Store) : nb [x0, some (sgn c)] S = if good c then .ok (.nx, [x0, some (sgn c)]) S else .ex ⟨2, []⟩ S := by
  unfold nb b_need_text_0
  simp [x_neG, cNL, cSP, cTI, lt1]
  by_cases h1 : c = 10
  · simp [h1, good]
  · by_cases h2 : 32 ≤ c
    · by_cases h3 : c ≤ 126
      · by_cases h4 : c = 37
        · subst h4; simp [good, show ¬ 37 < 32 by omega, show ¬ 126 < 37 by omega]
        · have h5 : ¬ ((c : Int) = 37) := by omega
          simp [good, h1, h2, h3, h4, h5, show ¬ c < 32 by omega, show ¬ 126 < c by omega]
      · simp [good, h1, h2, h3, show ¬ c < 32 by omega, show 126 < c by omega]
    · simp [good, h1, h2, show c < 32 by omega]
theorem nloop_ok (x0 : Option D) (S : Store) : ∀ (L : List Nat) (x1 : Option D), (∀ c ∈ L, good c) → ∃ y, forL still (nameT 1) nb (L.map sgn) [x0, x1] S = .ok (.nx, [x0, y]) S
  | [], x1, _ => ⟨x1, by rw [List.map_nil, forL_nil trivial]⟩
  | c :: L, x1, h => by
    obtain ⟨y, e⟩ := nloop_ok x0 S L (some (sgn c)) fun x hx => h x (List.mem_cons_of_mem _ hx)
    refine ⟨y, ?_⟩
    rw [List.map_cons, forL_cons trivial]
    simp [nb_eq, h c List.mem_cons_self, e]
theorem nloop_ex (x0 : Option D) (S : Store) : ∀ (L : List Nat) (x1 : Option D), (∃ c ∈ L, ¬ good c) → forL still (nameT 1) nb (L.map sgn) [x0, x1] S = .ex ⟨2, []⟩ S
  | [], x1, h => by obtain ⟨c, hc, _⟩ := h; simp at hc
  | c :: L, x1, h => by
    rw [List.map_cons, forL_cons trivial]
    by_cases q : good c
    · have e := nloop_ex x0 S L (some (sgn c)) (by
        obtain ⟨d, hd, nd⟩ := h
        rcases List.mem_cons.mp hd with hd | hd
        · subst hd; exact absurd q nd
        · exact ⟨d, hd, nd⟩)
      simp [nb_eq, q, e]
    · simp [nb_eq, q]
theorem need_ok {x : Str} {S : Store} (h1 : x.length ≤ 6000) (h2 : ∀ c ∈ cs x, good c) : F_need_text [.str x] S = .ok .non S := by
  have hz : x.length ≤ sizeLine := by rw [sz]; omega
  obtain ⟨y, e⟩ := nloop_ok (some (.str x)) S (cs x) none h2
  simp [F_need_text, m_need_text, N_need_text, startL, isKind, hz, show ¬ (6000 : Int) < x.length by omega, e]
theorem need_ex {x : Str} {S : Store} (h0 : x.length ≤ 16777216) (h : 6000 < x.length ∨ ∃ c ∈ cs x, ¬ good c) : F_need_text [.str x] S = .ex ⟨2, []⟩ S := by
  have hz : x.length ≤ sizeLine := h0
  by_cases q : 6000 < x.length
  · simp [F_need_text, m_need_text, N_need_text, startL, isKind, hz, show (6000 : Int) < x.length by omega]
  · rcases h with h | h
    · exact absurd h q
    · have e := nloop_ex (some (.str x)) S (cs x) none h
      simp [F_need_text, m_need_text, N_need_text, startL, isKind, hz, show ¬ (6000 : Int) < x.length by omega, e]
theorem need_no {d : D} {S : Store} {t : String} (h : kindO S d = some t) (ht : isKind "str" t = false) : F_need_text [d] S = .ex ⟨2, []⟩ S := by
  simp [F_need_text, m_need_text, N_need_text, startL, h, ht]
/-! ### words_of -/
noncomputable abbrev wb : MS := b_words_of_0
theorem mkS_nil : Str.ofString "" = mkS [] := mkS_of ""
theorem wb_eq (x0 : Option D) (T : Store) (s : WS) (c : Nat) (h1 : s.1.length < 16000000) (h2 : s.2.length < 16000000) :
    wb [x0, some (.ref T.length), some (strD s.2), some (sgn c)] (T ++ [.lst (s.1.map strD)]) = .ok (.nx, [x0, some (.ref T.length), some (strD (stepW s c).2), some (sgn c)]) (T ++ [.lst ((stepW s c).1.map strD)]) := by
  obtain ⟨f, w⟩ := s
  simp only at h1 h2
  unfold wb b_words_of_0 stepW flush sep br
  have e1 : ∀ g : List (List Nat), g.length < 16777216 → ∀ d, appendM (.ref T.length) [d] (T ++ [.lst (g.map strD)]) = .ok .non (T ++ [.lst (g.map strD ++ [d])]) := fun g hg d => by
    rw [x_append (lstAt_end _ _) (by simpa using hg), set_end]
  have z0 : ([] : List Nat) = cs (Str.ofString "") := by rw [cs_of]; rfl
  by_cases q : c = 40 ∨ c = 41 ∨ c = 32 ∨ c = 10
  · by_cases q2 : w = []
    · by_cases q3 : c = 40 ∨ c = 41
      · simp [cSEP, cBR, q, q2, q3, x_neD, ← z0, e1 f (by omega), strD_nil, strD_one, x_neDD]
      · simp [cSEP, cBR, q, q2, q3, x_neD, ← z0, strD_nil, x_neDD]
    · by_cases q3 : c = 40 ∨ c = 41
      · have e2 := e1 (f ++ [w]) (by simp; omega)
        simp only [List.map_append, List.map_cons, List.map_nil] at e2
        have l2 : lstAt (T ++ [Cell.lst (f.map strD ++ [strD w])]) T.length = some (f.map strD ++ [strD w]) := lstAt_end _ _
        simp [cSEP, cBR, q, q2, q3, x_neD, ← z0, e1 f (by omega), strD_nil, strD_one, e2, l2, x_neDD]
      · simp [cSEP, cBR, q, q2, q3, x_neD, ← z0, e1 f (by omega), strD_nil, x_neDD]
  · simp [cSEP, q, x_addDG, sz, show w.length + 1 ≤ 16777216 by omega]
theorem wloop (x0 : Option D) (T : Store) : ∀ (L : List Nat) (s : WS) (x3 : Option D), s.1.length + 2 * L.length < 16000000 → s.2.length + L.length < 16000000 →
    ∃ y, forL still (nameT 3) wb (L.map sgn) [x0, some (.ref T.length), some (strD s.2), x3] (T ++ [.lst (s.1.map strD)]) = .ok (.nx, [x0, some (.ref T.length), some (strD (L.foldl stepW s).2), y]) (T ++ [.lst ((L.foldl stepW s).1.map strD)])
  | [], s, x3, _, _ => ⟨x3, by rw [List.map_nil, forL_nil trivial]; rfl⟩
  | c :: L, s, x3, h1, h2 => by
    rw [List.length_cons] at h1 h2
    have b1 : (stepW s c).1.length ≤ s.1.length + 2 ∧ (stepW s c).2.length ≤ s.2.length + 1 := by
      unfold stepW flush
      split
      · refine ⟨?_, by simp⟩
        split <;> split <;> simp
      · simp
    obtain ⟨y, e⟩ := wloop x0 T L (stepW s c) (some (sgn c)) (by omega) (by omega)
    refine ⟨y, ?_⟩
    rw [List.map_cons, forL_cons trivial]
    simp [wb_eq x0 T s c (by omega) (by omega), e]
theorem words_eq {x : Str} {S : Store} (h1 : x.length ≤ 6000) (h2 : ∀ c ∈ cs x, good c) : F_words_of [.str x] S = .ok (.ref S.length) (S ++ [.lst ((wordsOf (cs x)).map strD)]) := by
  obtain ⟨y, e⟩ := wloop (some (.str x)) S (cs x ++ [32]) ([], []) none (by simp; omega) (by simp; omega)
  have hl : (Str.ofString " ").length = 1 := by rw [len_of]; rfl
  simp [F_words_of, m_words_of, N_words_of, startL, need_ok h1 h2, sz, hl, show x.length + 1 ≤ 16777216 by omega, mkS_nil, cSP]
  simp at e
  rw [show D.str (mkS []) = strD [] from rfl, e]
  simp [wordsOf, runW]
theorem words_ex {d : D} {S : Store} (h : F_need_text [d] S = .ex ⟨2, []⟩ S) : F_words_of [d] S = .ex ⟨2, []⟩ S := by
  simp [F_words_of, m_words_of, N_words_of, startL, h]
theorem refused_eq {d : D} {S : Store} (h : F_need_text [d] S = .ex ⟨2, []⟩ S) : F__law_refused [d] S = .ok (.bl true) S := by
  have hw := words_ex h
  simp only [F__law_refused, m__law_refused, N__law_refused, x_bodyF, x_seqS]
  rw [catch_ex (x := ⟨2, []⟩) (S1 := S) (r := .ok (.rt (.bl true), [some d, none, some (.bl false)]) S) (by simp [startL, hw]) rfl (fun a => by simp [startL, kisA, kisX, kis])]
  simp
/-! ### the law's own -/
def cellAt (ns : List Int) (k : Nat) : Int := (ns[k]?).getD 0
theorem cell_at_eq (ns : List Int) (k : Nat) (S : Store) : F__law_cell_at [.lis (ns.map .int), .int k] S = .ok (.int (cellAt ns k)) S := by
  simp [F__law_cell_at, m__law_cell_at, N__law_cell_at, startL]
  by_cases h : k < ns.length
  · simp [h, cellAt, x_ixD (S := S) (show ixO S (.lis (ns.map D.int)) (.int (k : Nat)) = some (.int ns[k]) from atI_nat (by simp [h]))]
  · simp [h, cellAt]
def st (ns : List Int) (a : Int) : Cell := .dct [(.inr (Str.ofString "cells"), .lis (ns.map .int)), (.inr (Str.ofString "at"), .int a)]
theorem next_eq (ns : List Int) (a : Int) (S : Store) (ha : 0 ≤ a) (ha : a < 100) : ∃ n : Int, F__law_next [.ref 0] (st ns a :: S) = .ok (.int n) (st ns (a + 1) :: S) ∧ 0 ≤ n ∧ n < 2 ^ 28 := by
  obtain ⟨m, e1, hm⟩ : ∃ m : Int, max 1 (ns.length : Int) = m ∧ 0 < m := ⟨_, rfl, by omega⟩
  obtain ⟨b, eb, hb⟩ : ∃ b : Int, a + 1 = b ∧ 0 ≤ b ∧ b ≤ 100 := ⟨_, rfl, by omega, by omega⟩
  obtain ⟨k, e2⟩ : ∃ k : Nat, b % m = (k : Int) := ⟨(b % m).toNat, by have := Int.emod_nonneg b (show m ≠ 0 by omega); omega⟩
  have e3 : b.natAbs < 18446744073709551616 := by omega
  simp [F__law_next, m__law_next, N__law_next, startL, x_ix, ixO, kvAt, lstAt, setO, st, dLook, keyO, dPut, sz, e1, hm, eb, e2, cell_at_eq]
  generalize cellAt ns k = c
  simp [e3]
  generalize c * 48271 + b * b * 69621 = z
  omega

def sg : Str := Str.ofString "!\"#$&'*+,-./0123456789:;<=>?@ABCDEFGHIJKLMNOPQRSTUVWXYZ[\\]^_" ++ Str.ofString "`abcdefghijklmnopqrstuvwxyz{|}~"
theorem sg_cs : ∃ l, cs sg = l ∧ l.length = 91 ∧ ∀ c ∈ l, good c ∧ sep c = false := by
  refine ⟨_, rfl, ?_, ?_⟩
  · unfold sg
    rw [cs_app, cs_of, cs_of]
    rfl
  · unfold sg
    rw [cs_app, cs_of, cs_of]
    decide
theorem signs_eq (S : Store) : F__law_signs [] S = .ok (.str sg) S := by
  have l1 : (Str.ofString "!\"#$&'*+,-./0123456789:;<=>?@ABCDEFGHIJKLMNOPQRSTUVWXYZ[\\]^_").length = 60 := by rw [len_of]; rfl
  have l2 : (Str.ofString "`abcdefghijklmnopqrstuvwxyz{|}~").length = 31 := by rw [len_of]; rfl
  simp [F__law_signs, m__law_signs, N__law_signs, startL, l1, l2, sz]
  rfl
/-- what is kept while the text is made -/
def MI (L : List Nat) (ws : List (List Nat)) (was : Bool) : Prop := (∀ c ∈ L, good c) ∧ flush (runW L) = ws ∧ (was = false → (runW L).2 = [])
theorem MI_word {L p : List Nat} {ws : List (List Nat)} (h : MI L ws false) (h0 : p ≠ []) (hp : ∀ c ∈ p, good c ∧ sep c = false) : MI (L ++ p) (ws ++ [p]) true := by
  obtain ⟨h1, h2, h3⟩ := h
  have h3 := h3 rfl
  have e : runW (L ++ p) = ((runW L).1, p) := by
    unfold runW at h3 ⊢
    rw [List.foldl_append, run_nosep p _ fun c hc => (hp c hc).2, h3, List.nil_append]
  refine ⟨fun c hc => ?_, ?_, fun z => by cases z⟩
  · rcases List.mem_append.mp hc with hc | hc
    · exact h1 c hc
    · exact (hp c hc).1
  · rw [e, ← h2]
    unfold flush
    rw [h3]
    simp [h0]
theorem MI_sep {L : List Nat} {ws : List (List Nat)} {was : Bool} {c : Nat} (h : MI L ws was) (hc : sep c = true) (hg : good c) : MI (L ++ [c]) (ws ++ if br c = true then [[c]] else []) false := by
  obtain ⟨h1, h2, h3⟩ := h
  have e : runW (L ++ [c]) = (ws ++ (if br c = true then [[c]] else []), []) := by
    unfold runW
    rw [List.foldl_append]
    show stepW (runW L) c = _
    rw [step_sep hc, h2]
  refine ⟨fun d hd => ?_, ?_, fun _ => by rw [e]⟩
  · rcases List.mem_append.mp hd with hd | hd
    · exact h1 d hd
    · simp at hd; subst hd; exact hg
  · rw [e]
    simp [flush]
theorem MI_words {L : List Nat} {ws : List (List Nat)} {was : Bool} (h : MI L ws was) : wordsOf L = ws := (wordsOf_eq L).trans h.2.1
theorem piece_eq (n : Int) (hn : 0 ≤ n) (l : ML.Loc) (S : Store) (h5 : l[5]? = some (some (.int n))) (h6 : l[6]? = some (some (.str sg))) (h8 : 8 < l.length) : ∃ p : List Nat, joinN (conE (.str (Str.ofString ""))) (compN (srcR1 (consA (binE addD (conE (.int 1)) (binE modD (binE fdivD (varE 5) (conE (.int 10))) (conE (.int 9)))) (nilA))) (.one 8) (yesM) (binE ixD (varE 6) (binE modD (binE addD (binE fdivD (varE 5) (conE (.int 90))) (binE mulD (binE mulD (conE (.int 13)) (varE 8)) (varE 8))) (newL lenV (consA (varE 6) (nilA)))))) l S = .ok (strD p) S ∧ p ≠ [] ∧ p.length ≤ 9 ∧ ∀ c ∈ p, good c ∧ sep c = false := by
  obtain ⟨sl, es, hl, hgs⟩ := sg_cs
  have hsz : sg.length = 91 := by rw [← cs_len, es, hl]
  have v5 : varE 5 l S = .ok (.int n) S := by simp [varE, h5]
  obtain ⟨m, em, hm1, hm2⟩ : ∃ m : Int, 1 + n / 10 % 9 = m ∧ 1 ≤ m ∧ m ≤ 9 := ⟨_, rfl, by omega, by omega⟩
  have hr : rng1 [.int m] S = .ok (intsFrom 0 m.toNat, still) S := if_pos (by omega)
  have hli : intsFrom 0 m.toNat = (List.range m.toNat).map fun i => D.int (0 + (i : Nat)) := rfl
  have hz2 : sg.length ≤ sizeLine := by rw [hsz, sz]; omega
  have hw : ∀ i : Nat, i < 9 → ∃ u ∈ sl, atI sl ((n / 90 + 13 * (0 + (i : Nat)) * (0 + (i : Nat))) % 91) = some u := fun i _ => atI_mem (by omega) (by rw [hl]; omega)
  obtain ⟨x, hx, ex⟩ := joinN_signs (m := compN (srcR1 (consA (binE addD (conE (.int 1)) (binE modD (binE fdivD (varE 5) (conE (.int 10))) (conE (.int 9)))) (nilA))) (.one 8) (yesM) (binE ixD (varE 6) (binE modD (binE addD (binE fdivD (varE 5) (conE (.int 90))) (binE mulD (binE mulD (conE (.int 13)) (varE 8)) (varE 8))) (newL lenV (consA (varE 6) (nilA))))))
    (l := l) (S := S) (S1 := S) (ks := (List.range m.toNat).map fun i => (atI sl ((n / 90 + 13 * (0 + (i : Nat)) * (0 + (i : Nat))) % 91)).getD 0) (by
      simp only [x_compN, x_srcR1, x_consA, x_nilA, x_bin, x_con, x_addI, x_fdivI, x_modI, v5, R.bind_ok]
      simp [em, hr, hli, Tgt.own, wipeL]
      rw [compL_mapG (fun i : Nat => D.int (i : Int)) (fun i : Nat => sgn ((atI sl ((n / 90 + 13 * (i : Int) * (i : Int)) % 91)).getD 0))]
      · simp
      · intro i hi
        have hi : i < m.toNat := List.mem_range.mp hi
        obtain ⟨k, ek⟩ : ∃ k : Int, (i : Int) = k := ⟨_, rfl⟩
        obtain ⟨u, hu, eu⟩ := hw i (by omega)
        rw [Int.zero_add, ek] at eu
        have ek2 : 0 ≤ k ∧ k < 9 := by omega
        rw [ek]
        have h7 : (13 * k).natAbs < 18446744073709551616 := by omega
        have w5 : (l.set 8 (some (.int k)))[5]? = some (some (.int n)) := by simp [h5]
        have w6 : (l.set 8 (some (.int k)))[6]? = some (some (.str sg)) := by simp [h6]
        have w8 : (l.set 8 (some (.int k)))[8]? = some (some (.int k)) := by simp [h8]
        have u5 : varE 5 (l.set 8 (some (.int k))) S = .ok (.int n) S := by unfold varE; rw [w5]
        have u6 : varE 6 (l.set 8 (some (.int k))) S = .ok (.str sg) S := by unfold varE; rw [w6]
        have u8 : varE 8 (l.set 8 (some (.int k))) S = .ok (.int k) S := by unfold varE; rw [w8]
        rw [List.set_set]
        simp [u5, u6, u8, hz2, hsz, h7]
        refine x_ixD ?_
        rw [x_ixT, if_pos hz2, es, eu]
        rfl
      · simp [sz]; omega) (by simp; omega)
  refine ⟨cs x, ?_, ?_, ?_, ?_⟩
  · rw [hx]
    show _ = R.ok (D.str (mkS (cs x))) S
    rw [mkS_cs]
  · rw [ex]
    intro h
    have := congrArg List.length h
    simp at this
    omega
  · rw [ex]; simp; omega
  · rw [ex]
    intro c hc
    obtain ⟨i, hi, e⟩ := List.mem_map.mp hc
    have hi := List.mem_range.mp hi
    obtain ⟨u, hu, eu⟩ := hw i (by omega)
    rw [eu] at e
    simp at e
    subst e
    exact hgs u hu
noncomputable abbrev mdB : MS := b__law_made_0
theorem sLP : D.str (Str.ofString "(") = strD [40] := congrArg D.str (mkS_of "(")
theorem sRP : D.str (Str.ofString ")") = strD [41] := congrArg D.str (mkS_of ")")
theorem sBL : D.str (Str.ofString " ") = strD [32] := congrArg D.str (mkS_of " ")
theorem sLF : D.str (Str.ofString "\n") = strD [10] := congrArg D.str (mkS_of "\n")
theorem sBB : D.str (Str.ofString "  ") = strD [32, 32] := congrArg D.str (mkS_of "  ")
theorem sBN : D.str (Str.ofString " \n") = strD [32, 10] := congrArg D.str (mkS_of " \n")
theorem in_br (p : List Nat) (S : Store) : inD (strD p) (.tup [strD [40], strD [41]]) S = .ok (decide (p = [40] ∨ p = [41])) S := by
  have e : inO S (strD p) (.tup [strD [40], strD [41]]) = some (inV (.str (mkS p)) [.str (mkS [40]), .str (mkS [41])]) := rfl
  unfold inD
  rw [e]
  show R.ok _ S = _
  congr 1
  rw [Bool.eq_iff_iff]
  simp [inV, eqV, mkS_inj, @eq_comm _ _ p]
def MEnd (ns : List Int) (a : Int) (x4 : Option D) (L : List Nat) (ws : List (List Nat)) (p : Fl × ML.Loc) (S2 : Store) : Prop := p.1 = .nx ∧ ∃ L' ws' was' y5 y6 y7 y8 r', p.2 = [some (.ref 0), some (strD L'), some (.ref 1), some (.bl was'), x4, y5, y6, y7, y8] ∧ S2 = st ns (a + 1) :: .lst (ws'.map strD) :: r' ∧ MI L' ws' was' ∧ L'.length ≤ L.length + 9 ∧ ws'.length ≤ ws.length + 1
theorem made_turn {L : List Nat} {ws : List (List Nat)} {was : Bool} {ns : List Int} {a : Int} {r : Store} {x4 x5 x6 x7 x8 : Option D} (ha : 0 ≤ a) (ha2 : a < 100) (h : MI L ws was) (hL : L.length ≤ 1000) (hw : ws.length ≤ 1000) :
    Ret (mdB [some (.ref 0), some (strD L), some (.ref 1), some (.bl was), x4, x5, x6, x7, x8] (st ns a :: .lst (ws.map strD) :: r)) (MEnd ns a x4 L ws) := by
  obtain ⟨n, en, hn, hn2⟩ := next_eq ns a (.lst (ws.map strD) :: r) ha ha2
  obtain ⟨p, ep, hp0, hp9, hpg⟩ := piece_eq n hn [some (.ref 0), some (strD L), some (.ref 1), some (.bl was), x4, some (.int n), some (.str sg), x7, x8] (st ns (a + 1) :: .lst (ws.map strD) :: r) rfl rfl (by simp)
  by_cases c : n % 10 < 5 ∧ was = false
  · obtain ⟨c1, rfl⟩ := c
    unfold mdB b__law_made_0
    simp [-x_joinN, en, signs_eq, ep]
    simp [c1, lstAt]
    rw [x_append (xs := ws.map strD) (by simp [lstAt]) (by simp; omega)]
    simp [x_addDD, sz, show L.length + p.length ≤ 16777216 by omega, c1]
    exact ⟨rfl, L ++ p, ws ++ [p], true, _, _, _, _, _, rfl, by simp; rfl, MI_word h hp0 hpg, by simp; omega, by simp⟩
  · have key : ∀ (q : List Nat) (j : Int), n / 10 % 6 = j → atI [strD [40], strD [41], strD [32], strD [10], strD [32, 32], strD [32, 10]] j = some (strD q) → MI (L ++ q) (ws ++ if q = [40] ∨ q = [41] then [q] else []) false → q.length ≤ 2 → 
        Ret (mdB [some (.ref 0), some (strD L), some (.ref 1), some (.bl was), x4, x5, x6, x7, x8] (st ns a :: .lst (ws.map strD) :: r)) (MEnd ns a x4 L ws) := by
      intro q j ej hq hM hq2
      have fin : ∀ r' y5 y6 y7 y8, MEnd ns a x4 L ws (.nx, [some (.ref 0), some (strD (L ++ q)), some (.ref 1), some (.bl false), x4, y5, y6, y7, y8]) (st ns (a + 1) :: .lst ((ws ++ if q = [40] ∨ q = [41] then [q] else []).map strD) :: r') := fun r' y5 y6 y7 y8 =>
        ⟨rfl, L ++ q, _, false, _, _, _, _, _, rfl, rfl, hM, by simp; omega, by split <;> simp⟩
      unfold mdB b__law_made_0
      have hc : n % 10 < 5 → was = true := fun z => by
        cases was with
        | true => rfl
        | false => exact absurd ⟨z, rfl⟩ c
      have e0 : ∀ r', appendM (.ref 1) [strD q] (st ns (a + 1) :: .lst (ws.map strD) :: r') = .ok .non (st ns (a + 1) :: .lst (ws.map strD ++ [strD q]) :: r') := fun r' => by
        rw [x_append (xs := ws.map strD) (by simp [lstAt]) (by simp; omega)]
        rfl
      by_cases c1 : n % 10 < 5
      · have := hc c1
        subst this
        simp [-x_joinN, en, signs_eq, ep, c1, sz, sLP, sRP, sBL, sLF, sBB, sBN, ej, x_ix, ixO, hq, x_addDD, in_br, show L.length + q.length ≤ 16777216 by omega]
        by_cases c2 : q = [40] ∨ q = [41]
        · rw [if_pos c2] at fin
          simp [c2, lstAt, e0, c1]
          have := fin (r ++ [Cell.lst [strD [40], strD [41], strD [32], strD [10], strD [32, 32], strD [32, 10]]])
          simp at this
          exact this _ _ _ _
        · rw [if_neg c2] at fin
          simp [c2, c1]
          have := fin (r ++ [Cell.lst [strD [40], strD [41], strD [32], strD [10], strD [32, 32], strD [32, 10]]])
          simp at this
          exact this _ _ _ _
      · simp [-x_joinN, en, signs_eq, ep, c1, sz, sLP, sRP, sBL, sLF, sBB, sBN, ej, x_ix, ixO, hq, x_addDD, in_br, show L.length + q.length ≤ 16777216 by omega]
        by_cases c2 : q = [40] ∨ q = [41]
        · rw [if_pos c2] at fin
          simp [c2, lstAt, e0, c1]
          have := fin (r ++ [Cell.lst [strD [40], strD [41], strD [32], strD [10], strD [32, 32], strD [32, 10]]])
          simp at this
          exact this _ _ _ _
        · rw [if_neg c2] at fin
          simp [c2, c1]
          have := fin (r ++ [Cell.lst [strD [40], strD [41], strD [32], strD [10], strD [32, 32], strD [32, 10]]])
          simp at this
          exact this _ _ _ _
    have hj : n / 10 % 6 = 0 ∨ n / 10 % 6 = 1 ∨ n / 10 % 6 = 2 ∨ n / 10 % 6 = 3 ∨ n / 10 % 6 = 4 ∨ n / 10 % 6 = 5 := by omega
    have g32 : good 32 := by decide
    have g10 : good 10 := by decide
    rcases hj with hj | hj | hj | hj | hj | hj
    · exact key [40] 0 hj rfl (MI_sep h (by decide) (by decide)) (by simp)
    · exact key [41] 1 hj rfl (MI_sep h (by decide) (by decide)) (by simp)
    · exact key [32] 2 hj rfl (MI_sep h (by decide) (by decide)) (by simp)
    · exact key [10] 3 hj rfl (MI_sep h (by decide) (by decide)) (by simp)
    · refine key [32, 32] 4 hj rfl ?_ (by simp)
      have := MI_sep (MI_sep h (c := 32) (by decide) g32) (c := 32) (by decide) g32
      simpa [br] using this
    · refine key [32, 10] 5 hj rfl ?_ (by simp)
      have := MI_sep (MI_sep h (c := 32) (by decide) g32) (c := 10) (by decide) g10
      simpa [br] using this
def MInv (ns : List Int) (K : Nat) (k : Nat) (l : ML.Loc) (S : Store) : Prop := k ≤ K ∧ ∃ L ws was x4 x5 x6 x7 x8 r, l = [some (.ref 0), some (strD L), some (.ref 1), some (.bl was), x4, x5, x6, x7, x8] ∧ S = st ns (2 + k) :: .lst (ws.map strD) :: r ∧ MI L ws was ∧ L.length ≤ 9 * k ∧ ws.length ≤ k
def MFin (ns : List Int) (d : D) (S : Store) : Prop := ∃ L ws was a r, d = .tup [strD L, .ref 1] ∧ S = st ns a :: .lst (ws.map strD) :: r ∧ MI L ws was ∧ L.length ≤ 540 ∧ ws.length ≤ 60 ∧ 0 ≤ a ∧ a < 70
theorem made_eq (ns : List Int) : Ret (F__law_made [.ref 0] [st ns 1]) (MFin ns) := by
  obtain ⟨n, en, hn, hn2⟩ := next_eq ns 1 [.lst []] (by omega) (by omega)
  obtain ⟨m, em, hm1, hm2⟩ : ∃ m : Int, n % 60 = m ∧ 0 ≤ m ∧ m < 60 := ⟨_, rfl, by omega, by omega⟩
  have hr : rng1 [.int m] [st ns (1 + 1), .lst []] = .ok (ML.intsFrom 0 m.toNat, still) [st ns (1 + 1), .lst []] := if_pos (by omega)
  simp [F__law_made, m__law_made, N__law_made, startL, sz, strD_nil, en, em, hr, Ret_bind, -Int.reduceAdd]
  refine forS_inv (MInv ns m.toNat) ⟨by omega, [], [], false, _, _, _, _, _, _, rfl, rfl, ⟨by simp, rfl, fun _ => rfl⟩, by simp, by simp⟩ (fun _ _ _ _ => trivial) ?_ ?_
  · rintro k d l S ⟨hk, L, ws, was, x4, x5, x6, x7, x8, r, rfl, rfl, hM, hL, hw⟩ hd
    obtain ⟨hk1, rfl⟩ := ints_at hd
    obtain ⟨k0, ek0⟩ : ∃ k0 : Int, (2 : Int) + k = k0 := ⟨_, rfl⟩
    rw [ek0]
    simp
    refine (made_turn (a := k0) (by omega) (by omega) hM (by omega) (by omega)).imp ?_
    rintro ⟨fl, l2⟩ S2 ⟨rfl, L', ws', was', y5, y6, y7, y8, r', e1, rfl, h1, h2, h3⟩
    refine ⟨by omega, L', ws', was', _, y5, y6, y7, y8, r', e1, ?_, h1, by omega, by omega⟩
    have e : k0 + 1 = 2 + ((k + 1 : Nat) : Int) := by omega
    rw [e]
  · rintro l S ⟨hk, L, ws, was, x4, x5, x6, x7, x8, r, rfl, rfl, hM, hL, hw⟩
    have hl : (ML.intsFrom 0 m.toNat).length = m.toNat := by simp [ML.intsFrom]
    rw [hl] at hL hw ⊢
    simp
    exact ⟨L, ws, was, _, r, rfl, rfl, hM, by omega, by omega, by omega, by omega⟩
theorem dict_st (ns : List Int) (r : ML.Loc) : dictE (consP (conE (.str (Str.ofString "cells"))) (varE 0) (consP (conE (.str (Str.ofString "at"))) (conE (.int 0)) (nilP))) (some (.lis (ns.map .int)) :: r) [] = .ok (.ref 0) [st ns 0] := by
  simp [dctAt, keysO, keyO, mergeD, dPut]
  rfl
theorem words_more {L u : List Nat} {ws : List (List Nat)} {was : Bool} (h : MI L ws was) : ∃ t, wordsOf (L ++ 32 :: u) = ws ++ t := by
  obtain ⟨t, ht⟩ := run_pre (u ++ [32]) (ws, [])
  refine ⟨t, ?_⟩
  rw [← ht]
  unfold wordsOf runW
  rw [List.append_assoc, List.foldl_append, List.cons_append, List.foldl_cons]
  have e : stepW (L.foldl stepW ([], [])) 32 = (ws, []) := by
    rw [step_sep (by decide)]
    have := h.2.1
    unfold runW at this
    rw [this]
    simp [br]
  rw [e]
theorem rep_len2 (n : Nat) : ((List.replicate n [32, 120]).flatten).length = 2 * n := by
  induction n with
  | zero => rfl
  | succ n ih => rw [List.replicate_succ, List.flatten_cons, List.length_append, ih]; simp; omega
theorem rep_mem2 (n : Nat) : ∀ c ∈ (List.replicate n [32, 120]).flatten, c = 32 ∨ c = 120 := by
  intro c hc
  obtain ⟨l, hl, hc⟩ := List.mem_flatten.mp hc
  have := (List.mem_replicate.mp hl).2
  subst this
  simpa using hc
theorem long_eq {L : List Nat} {z n : Nat} (hL : L.length < z) (h2 : z ≤ 2 * (n + 1)) : ∃ u, (L ++ (List.replicate (n + 1) [32, 120]).flatten).take z = L ++ 32 :: u ∧ (L ++ 32 :: u).length = z ∧ ∀ c ∈ u, c = 32 ∨ c = 120 := by
  have e : (List.replicate (n + 1) [32, 120]).flatten = 32 :: (120 :: (List.replicate n [32, 120]).flatten) := by
    rw [List.replicate_succ, List.flatten_cons]
    rfl
  refine ⟨(120 :: (List.replicate n [32, 120]).flatten).take (z - L.length - 1), ?_, ?_, fun c hc => ?_⟩
  · rw [e, List.take_append, List.take_of_length_le (by omega)]
    congr 1
    rw [show z - L.length = (z - L.length - 1) + 1 by omega, List.take_succ_cons]
    rfl
  · rw [List.length_append, List.length_cons, List.length_take, List.length_cons, rep_len2]
    omega
  · have := List.mem_of_mem_take hc
    rcases List.mem_cons.mp this with h | h
    · exact .inr h
    · exact rep_mem2 _ c h
theorem long_all {L : List Nat} {z : Nat} (hL : L.length ≤ 540) (h1 : 5999 ≤ z) (h2 : z ≤ 6002) : ∃ v u, (∀ S, mulD (.str (Str.ofString " x")) (.int 3001) S = .ok (strD v) S) ∧ (∀ S, addD (strD L) (strD v) S = .ok (strD (L ++ v)) S) ∧ (∀ S, sliceD (strD (L ++ v)) none (some (z : Int)) S = .ok (strD (L ++ 32 :: u)) S) ∧ (L ++ 32 :: u).length = z ∧ ∀ c ∈ u, c = 32 ∨ c = 120 := by
  obtain ⟨n, hn⟩ : ∃ n : Nat, n = 3000 := ⟨_, rfl⟩
  have hi : (3001 : Int) = ((n + 1 : Nat) : Int) := by omega
  have cx : cs (Str.ofString " x") = [32, 120] := by rw [cs_of]; rfl
  have lx : (Str.ofString " x").length = 2 := by rw [len_of]; rfl
  obtain ⟨u, eu, hu, hu2⟩ := long_eq (L := L) (z := z) (n := n) (by omega) (by omega)
  have hv := rep_len2 (n + 1)
  refine ⟨(List.replicate (n + 1) [32, 120]).flatten, u, fun S => ?_, fun S => ?_, fun S => ?_, hu, hu2⟩
  · rw [hi, x_rep (by omega) (by omega) (by omega) (by rw [lx, Int.toNat_natCast]; omega), Int.toNat_natCast, repS_D, cx]
  · rw [x_addDD, hv, if_pos]
    show _ ≤ 16777216
    omega
  · rw [x_slTake (by rw [List.length_append, hv]; omega), eu]
theorem refused_D {w : List Nat} {S : Store} (h0 : w.length ≤ 16777216) (h : 6000 < w.length ∨ ∃ c ∈ w, ¬ good c) : F__law_refused [strD w] S = .ok (.bl true) S :=
  refused_eq (need_ex (x := mkS w) (by rw [mkS_len]; exact h0) (by rw [mkS_len, cs_mkS]; exact h))
/-- what is known where the ways part -/
structure Pre (ns : List Int) (n1 n2 a : Int) (L : List Nat) (ws : List (List Nat)) (r : Store) : Prop where
  en1 : F__law_next [.ref 0] [st ns 0] = .ok (.int n1) [st ns 1]
  em : F__law_made [.ref 0] [st ns 1] = .ok (.tup [strD L, .ref 1]) (st ns a :: .lst (ws.map strD) :: r)
  en2 : F__law_next [.ref 0] (st ns a :: .lst (ws.map strD) :: r) = .ok (.int n2) (st ns (a + 1) :: .lst (ws.map strD) :: r)
  hM : ∃ was, MI L ws was
  hL : L.length ≤ 540
  hw : ws.length ≤ 60
  hn2 : 0 ≤ n2
theorem Pre.ok {ns : List Int} {n1 n2 a : Int} {L : List Nat} {ws : List (List Nat)} {r : Store} (h : Pre ns n1 n2 a L ws r) : ∀ w ∈ ws, okT w := by
  obtain ⟨was, hM⟩ := h.hM
  rw [← MI_words hM]
  exact words_ok hM.1
theorem Pre.word {ns : List Int} {n1 n2 a : Int} {L : List Nat} {ws : List (List Nat)} {r : Store} (h : Pre ns n1 n2 a L ws r) : ∀ S, F_words_of [strD L] S = .ok (.ref S.length) (S ++ [.lst (ws.map strD)]) := fun S => by
  obtain ⟨was, hM⟩ := h.hM
  have hL := h.hL
  have := words_eq (x := mkS L) (S := S) (by rw [mkS_len]; omega) (by rw [cs_mkS]; exact hM.1)
  rw [cs_mkS, MI_words hM] at this
  exact this
end K04

set_option Elab.async false
set_option linter.all false
set_option maxRecDepth 100000
set_option autoImplicit false
namespace K04
open PySem PySem.Spec L2 ML
theorem law_c2 {ns : List Int} {n1 n2 a : Int} {L : List Nat} {ws : List (List Nat)} {r : Store} (h : Pre ns n1 n2 a L ws r) (c1 : ¬n1 % 9 = 1) (c2 : n1 % 9 = 2) : Ret (F_law [.lis (ns.map D.int)] []) fun d _ => d = .bl true := by
  obtain ⟨en1, em, en2, ⟨was, hM⟩, hL, hw, hn2⟩ := id h
  have hok := h.ok
  have eword := h.word
  obtain ⟨p, ep, hp⟩ : ∃ p : Nat, n2 % ((L.length : Int) + 1) = (p : Int) ∧ p ≤ L.length := by
    have h1 := Int.emod_nonneg n2 (show (L.length : Int) + 1 ≠ 0 by omega)
    have h2 := Int.emod_lt_of_pos n2 (show 0 < (L.length : Int) + 1 by omega)
    exact ⟨(n2 % ((L.length : Int) + 1)).toNat, by omega, by omega⟩
  have e9 : D.str (Str.ofString "\t") = strD [9] := congrArg D.str (mkS_of "\t")
  have hr := fun S => refused_D (S := S) (w := L.take p ++ ([9] ++ L.drop p)) (by simp; omega) (.inr ⟨9, by simp, by decide⟩)
  simp at hr
  simp [F_law, m_law, N_law, startL, -x_dictE, dict_st, en1, em, namesT, namesL, en2, c1, c2, sz, x_lenD (w := L) (by omega), show (0 : Int) < (L.length : Int) + 1 by omega, ep, x_slTake (w := L) (by omega), x_slDrop (w := L) (by omega), x_addDD, e9, show min p L.length + 1 ≤ 16777216 by omega, show min p L.length + 1 + (L.length - p) ≤ 16777216 by omega, hr]
end K04

set_option Elab.async false
set_option linter.all false
set_option maxRecDepth 100000
set_option autoImplicit false
namespace K04
open PySem PySem.Spec L2 ML
theorem law_c3 {ns : List Int} {n1 n2 a : Int} {L : List Nat} {ws : List (List Nat)} {r : Store} (h : Pre ns n1 n2 a L ws r) (c1 : ¬n1 % 9 = 1) (c2 : ¬n1 % 9 = 2) (c3 : n1 % 9 = 3) : Ret (F_law [.lis (ns.map D.int)] []) fun d _ => d = .bl true := by
  obtain ⟨en1, em, en2, ⟨was, hM⟩, hL, hw, hn2⟩ := id h
  have hok := h.ok
  have eword := h.word
  obtain ⟨z, ez, hz1, hz2⟩ : ∃ z : Nat, 5999 + n2 % 4 = (z : Int) ∧ 5999 ≤ z ∧ z ≤ 6002 := ⟨(5999 + n2 % 4).toNat, by omega, by omega, by omega⟩
  obtain ⟨v, u, e1, e3, e2, hu, hu2⟩ := long_all hL hz1 hz2
  by_cases c4 : 6000 < z
  · have hr := fun S => refused_D (S := S) (w := L ++ 32 :: u) (by omega) (.inl (by omega))
    simp [F_law, m_law, N_law, startL, -x_dictE, dict_st, en1, em, namesT, namesL, en2, c1, c2, c3, sz, ez, e1, e2, e3, show (6000 : Int) < (z : Int) by omega, hr]
  · obtain ⟨t, ht⟩ := words_more (u := u) hM
    have hg3 : ∀ c ∈ L ++ 32 :: u, good c := fun c hc => by
      rcases List.mem_append.mp hc with hc | hc
      · exact hM.1 c hc
      · rcases List.mem_cons.mp hc with hc | hc
        · subst hc; decide
        · rcases hu2 c hc with hc | hc <;> (subst hc; decide)
    have e4 : ∀ S, F_words_of [strD (L ++ 32 :: u)] S = .ok (.ref S.length) (S ++ [.lst ((ws ++ t).map strD)]) := fun S => by
      have := words_eq (x := mkS (L ++ 32 :: u)) (S := S) (by rw [mkS_len]; omega) (by rw [cs_mkS]; exact hg3)
      rw [cs_mkS, ht] at this
      exact this
    have hok3 : ∀ w ∈ ws ++ t, okT w := by rw [← ht]; exact words_ok hg3
    obtain ⟨k, ek, hk⟩ : ∃ k : Nat, max 0 ((ws.length : Int) - 1) = (k : Int) ∧ k ≤ ws.length := ⟨(max 0 ((ws.length : Int) - 1)).toNat, by omega, by omega⟩
    have e5 : lenV [.ref 1] (st ns (a + 1) :: Cell.lst (ws.map strD) :: r) = .ok (.int ws.length) (st ns (a + 1) :: Cell.lst (ws.map strD) :: r) := by
      rw [x_lenR (xs := ws.map strD) (lstAt_of rfl), List.length_map]
    have g1 : lstAt (st ns (a + 1) :: Cell.lst (ws.map strD) :: (r ++ [Cell.lst (ws.map strD ++ t.map strD)])) (r.length + 1 + 1) = some ((ws ++ t).map strD) := lstAt_of (by simp)
    simp [F_law, m_law, N_law, startL, -x_dictE, dict_st, en1, em, namesT, namesL, en2, c1, c2, c3, sz, ez, e1, e2, e3, show ¬ (6000 : Int) < (z : Int) by omega, e5, ek, e4, x_slR g1]
    have g2 : lstAt (st ns (a + 1) :: Cell.lst (ws.map strD) :: (r ++ [Cell.lst (ws.map strD ++ t.map strD), Cell.lst (List.take k (ws.map strD ++ t.map strD))])) 1 = some (ws.map strD) := rfl
    rw [x_slR g2, R.bind_ok]
    have e6 : List.take k (ws.map strD ++ t.map strD) = (ws.take k).map strD := by
      rw [List.take_append_of_le_length (by simpa using hk), List.map_take]
    rw [e6, ← List.map_take]
    have hok4 : ∀ w ∈ ws.take k, okT w := fun w hw => hok w (List.mem_of_mem_take hw)
    rw [x_eqStrs (ws := ws.take k) (vs := ws.take k) (by simp) (by simp) hok4 hok4]
    simp
end K04

set_option Elab.async false
set_option linter.all false
set_option maxRecDepth 100000
set_option autoImplicit false
namespace K04
open PySem PySem.Spec L2 ML
theorem law_c4 {ns : List Int} {n1 n2 a : Int} {L : List Nat} {ws : List (List Nat)} {r : Store} (h : Pre ns n1 n2 a L ws r) (c1 : ¬n1 % 9 = 1) (c2 : ¬n1 % 9 = 2) (c3 : ¬n1 % 9 = 3) : Ret (F_law [.lis (ns.map D.int)] []) fun d _ => d = .bl true := by
  obtain ⟨en1, em, en2, ⟨was, hM⟩, hL, hw, hn2⟩ := id h
  have hok := h.ok
  have eword := h.word
  have g1 : (st ns (a + 1) :: Cell.lst (ws.map strD) :: (r ++ [Cell.lst (ws.map strD)]))[r.length + 1 + 1]? = some (.lst (ws.map strD)) := by simp
  have g2 : (st ns (a + 1) :: Cell.lst (ws.map strD) :: (r ++ [Cell.lst (ws.map strD)]))[1]? = some (.lst (ws.map strD)) := rfl
  have hc : ∀ l, compL (fun S' => lstAt S' (r.length + 1 + 1) = some (ws.map strD)) (Tgt.one 11) yesM (toV (isE "str" (varE 11))) [some (D.lis (List.map D.int ns)), some (D.ref 0), some (D.int n1), some (strD L), some (D.ref 1), some (D.int n2), none, none, none, none, some (D.ref (r.length + 1 + 1)), l] (ws.map strD) [] (st ns (a + 1) :: Cell.lst (ws.map strD) :: (r ++ [Cell.lst (ws.map strD)]))
      = .ok (ws.map fun _ => D.bl true) (st ns (a + 1) :: Cell.lst (ws.map strD) :: (r ++ [Cell.lst (ws.map strD)])) := fun l => by
    rw [compL_mapG strD (fun _ => .bl true) ws (hk := lstAt_of g1)]
    · intro w hw
      simp [isKind, strD]
    · rw [sz]; omega
  have ha := fun S => allL_map (fun _ => true) ws S
  have e1 := x_append (d := D.str (Str.ofString "")) (lstAt_of g1) (by simp; omega)
  simp at e1
  have g3 : (st ns (a + 1) :: Cell.lst (ws.map strD) :: (r ++ [Cell.lst (ws.map strD ++ [D.str (Str.ofString "")]), Cell.lst (ws.map strD)]))[r.length + 1 + 1 + 1]? = some (.lst (ws.map strD)) := by simp
  have g4 : (st ns (a + 1) :: Cell.lst (ws.map strD) :: (r ++ [Cell.lst (ws.map strD ++ [D.str (Str.ofString "")]), Cell.lst (ws.map strD)]))[1]? = some (.lst (ws.map strD)) := rfl
  simp [F_law, m_law, N_law, startL, -x_dictE, dict_st, en1, em, namesT, namesL, en2, c1, c2, c3, sz, eword, x_kLst g1, isKind, x_neStrs g1 g2 hok hok, x_srcR g1, Tgt.own, wipeL, hc, ha, lstAt_of g1, e1, x_eqStrs g3 g4 hok hok]
  rw [x_addR (xs := ws.map strD) (ys := [D.str (Str.ofString "")]) rfl (by simp) (by simp; omega), R.bind_ok]
  have hv : ws.map strD ++ [D.str (Str.ofString "")] = (ws ++ [[]]).map strD := by rw [strD_nil, List.map_append]; rfl
  have hok2 : ∀ w ∈ ws ++ [[]], okT w := fun w hw => by
    rcases List.mem_append.mp hw with hw | hw
    · exact hok w hw
    · simp at hw; subst hw; intro c hc; simp at hc
  rw [x_eqStrs (ws := ws ++ [[]]) (vs := ws ++ [[]]) (by rw [← hv]; simp) (by rw [← hv]; simp) hok2 hok2]
  simp
end K04

set_option Elab.async false
set_option linter.all false
set_option maxRecDepth 100000
set_option autoImplicit false
namespace K04
open PySem PySem.Spec L2 ML
theorem law_c1 {ns : List Int} {n1 n2 a : Int} {L : List Nat} {ws : List (List Nat)} {r : Store} (h : Pre ns n1 n2 a L ws r) (c1 : n1 % 9 = 1) : Ret (F_law [.lis (ns.map D.int)] []) fun d _ => d = .bl true := by
  obtain ⟨en1, em, en2, ⟨was, hM⟩, hL, hw, hn2⟩ := id h
  have hok := h.ok
  have eword := h.word
  obtain ⟨j, ej, hj⟩ : ∃ j : Int, n2 % 6 = j ∧ (j = 0 ∨ j = 1 ∨ j = 2 ∨ j = 3 ∨ j = 4 ∨ j = 5) := ⟨_, rfl, by omega⟩
  have key : ∀ (y : D) (S : Store) (x : D), (∃ t, kindO S y = some t ∧ isKind "str" t = false) → F__law_refused [y] S = .ok (.bl true) S := fun y S x h => by
    obtain ⟨t, h1, h2⟩ := h
    exact refused_eq (need_no h1 h2)
  have fin : ∀ y, atI [D.non, D.int 5, D.ref (r.length + 1 + 1), D.tup [D.str (Str.ofString "("), D.str (Str.ofString ")")], D.bl true, D.ref 1] j = some y →
      (∃ t, kindO (st ns (a + 1) :: Cell.lst (ws.map strD) :: (r ++ [Cell.lst [D.str (Str.ofString "a")], Cell.lst [D.non, D.int 5, D.ref (r.length + 1 + 1), D.tup [D.str (Str.ofString "("), D.str (Str.ofString ")")], D.bl true, D.ref 1]])) y = some t ∧ isKind "str" t = false) →
      Ret (F_law [.lis (ns.map D.int)] []) fun d _ => d = .bl true := fun y hy hk => by
    simp [F_law, m_law, N_law, startL, -x_dictE, dict_st, en1, em, namesT, namesL, en2, c1, ej, sz, x_ix, ixO, hy, key y _ y hk]
  rcases hj with rfl | rfl | rfl | rfl | rfl | rfl
  · exact fin _ rfl ⟨_, rfl, by decide⟩
  · exact fin _ rfl ⟨_, rfl, by decide⟩
  · exact fin _ rfl ⟨_, x_kLst (xs := [D.str (Str.ofString "a")]) (by simp), by decide⟩
  · exact fin _ rfl ⟨_, rfl, by decide⟩
  · exact fin _ rfl ⟨_, rfl, by decide⟩
  · exact fin _ rfl ⟨_, x_kLst (xs := ws.map strD) rfl, by decide⟩
end K04

set_option Elab.async false
set_option linter.all false
set_option maxRecDepth 100000
set_option autoImplicit false
namespace K04
open PySem PySem.Spec L2 ML
theorem law_true : ∀ ns : List Int, ns.length ≤ 63 → ∃ S', F_law [.lis (ns.map D.int)] [] = .ok (.bl true) S' := by
  intro ns _
  suffices h : Ret (F_law [.lis (ns.map D.int)] []) fun d _ => d = .bl true by
    obtain ⟨a, S, h1, h2⟩ := h.of
    exact ⟨S, by rw [h1, h2]⟩
  obtain ⟨n1, en1, hn1, _⟩ := next_eq ns 0 [] (by omega) (by omega)
  obtain ⟨d, S1, em, L, ws, was, a, r, rfl, rfl, hM, hL, hw, ha, ha2⟩ := (made_eq ns).of
  obtain ⟨n2, en2, hn2, hn2'⟩ := next_eq ns a (.lst (ws.map strD) :: r) ha (by omega)
  rw [Int.zero_add] at en1
  have h : Pre ns n1 n2 a L ws r := ⟨en1, em, en2, ⟨was, hM⟩, hL, hw, hn2⟩
  by_cases c1 : n1 % 9 = 1
  · exact law_c1 h c1
  by_cases c2 : n1 % 9 = 2
  · exact law_c2 h c1 c2
  by_cases c3 : n1 % 9 = 3
  · exact law_c3 h c1 c2 c3
  exact law_c4 h c1 c2 c3
end K04

set_option Elab.async false
set_option linter.all false
set_option maxRecDepth 100000
set_option autoImplicit false
set_option maxHeartbeats 4000000
namespace K04
open PySem PySem.Spec L2 ML
theorem all_mk {l : PySem.W.OpenLaw} {w : World} {K : PySem.W.Frag} {h : Heap} {mg : Str → Option Value} {fa : Addr} (X : K.In h) (G : h.Ns mainGlobals mg) (hfa : mg "law" = some (.ref fa))
    {f1 : Addr} {od1 an1 : Option Addr} {sl1 : Array (Option Value)} {oc1 kV1 dc1 pm1 cd1 ct1 : Value}
    {f2 : Addr} {od2 an2 : Option Addr} {sl2 : Array (Option Value)} {oc2 kV2 dc2 pm2 cd2 ct2 : Value}
    {f3 : Addr} {od3 an3 : Option Addr} {sl3 : Array (Option Value)} {oc3 kV3 dc3 pm3 cd3 ct3 : Value}
    {f4 : Addr} {od4 an4 : Option Addr} {sl4 : Array (Option Value)} {oc4 kV4 dc4 pm4 cd4 ct4 : Value}
    {f5 : Addr} {od5 an5 : Option Addr} {sl5 : Array (Option Value)} {oc5 kV5 dc5 pm5 cd5 ct5 : Value}
    {f6 : Addr} {od6 an6 : Option Addr} {sl6 : Array (Option Value)} {oc6 kV6 dc6 pm6 cd6 ct6 : Value}
    {f7 : Addr} {od7 an7 : Option Addr} {sl7 : Array (Option Value)} {oc7 kV7 dc7 pm7 cd7 ct7 : Value}
    {f8 : Addr} {od8 an8 : Option Addr} {sl8 : Array (Option Value)} {oc8 kV8 dc8 pm8 cd8 ct8 : Value}
    {t_MOST_SIGNS : Tok}
    {t_PERCENT : Tok}
    {C_BadText : Addr}
    {C_LoomError : Addr}
    {C_BadCount : Addr}
    {C_BadName : Addr}
    {C_BadTree : Addr}
    {C_NoThing : Addr}
    {C_BadCode : Addr}
    (a1 : PySem.W.nsIn K mainGlobals "_law_cell_at" = some (some (.ref f1)))
    (l1 : K.lookup f1 = some ⟨oc1, od1, .func (PySem.W.fnOf "_law_cell_at" "_law_cell_at" (defArgs s__law_cell_at) (defBody s__law_cell_at) (defScope s__law_cell_at) .none kV1 dc1 pm1 an1 cd1 ct1), sl1⟩)
    (c1 : PySem.W.codeIn K cd1 "_law_cell_at" = true)
    (k1 : PySem.W.keepIn K (.ref f1) = true)
    (a2 : PySem.W.nsIn K mainGlobals "_law_next" = some (some (.ref f2)))
    (l2 : K.lookup f2 = some ⟨oc2, od2, .func (PySem.W.fnOf "_law_next" "_law_next" (defArgs s__law_next) (defBody s__law_next) (defScope s__law_next) .none kV2 dc2 pm2 an2 cd2 ct2), sl2⟩)
    (c2 : PySem.W.codeIn K cd2 "_law_next" = true)
    (k2 : PySem.W.keepIn K (.ref f2) = true)
    (a3 : PySem.W.nsIn K mainGlobals "_law_signs" = some (some (.ref f3)))
    (l3 : K.lookup f3 = some ⟨oc3, od3, .func (PySem.W.fnOf "_law_signs" "_law_signs" (defArgs s__law_signs) (defBody s__law_signs) (defScope s__law_signs) .none kV3 dc3 pm3 an3 cd3 ct3), sl3⟩)
    (c3 : PySem.W.codeIn K cd3 "_law_signs" = true)
    (k3 : PySem.W.keepIn K (.ref f3) = true)
    (a4 : PySem.W.nsIn K mainGlobals "_law_made" = some (some (.ref f4)))
    (l4 : K.lookup f4 = some ⟨oc4, od4, .func (PySem.W.fnOf "_law_made" "_law_made" (defArgs s__law_made) (defBody s__law_made) (defScope s__law_made) .none kV4 dc4 pm4 an4 cd4 ct4), sl4⟩)
    (c4 : PySem.W.codeIn K cd4 "_law_made" = true)
    (k4 : PySem.W.keepIn K (.ref f4) = true)
    (a5 : PySem.W.nsIn K mainGlobals "need_text" = some (some (.ref f5)))
    (l5 : K.lookup f5 = some ⟨oc5, od5, .func (PySem.W.fnOf "need_text" "need_text" (defArgs s_need_text) (defBody s_need_text) (defScope s_need_text) .none kV5 dc5 pm5 an5 cd5 ct5), sl5⟩)
    (c5 : PySem.W.codeIn K cd5 "need_text" = true)
    (k5 : PySem.W.keepIn K (.ref f5) = true)
    (a6 : PySem.W.nsIn K mainGlobals "words_of" = some (some (.ref f6)))
    (l6 : K.lookup f6 = some ⟨oc6, od6, .func (PySem.W.fnOf "words_of" "words_of" (defArgs s_words_of) (defBody s_words_of) (defScope s_words_of) .none kV6 dc6 pm6 an6 cd6 ct6), sl6⟩)
    (c6 : PySem.W.codeIn K cd6 "words_of" = true)
    (k6 : PySem.W.keepIn K (.ref f6) = true)
    (a7 : PySem.W.nsIn K mainGlobals "_law_refused" = some (some (.ref f7)))
    (l7 : K.lookup f7 = some ⟨oc7, od7, .func (PySem.W.fnOf "_law_refused" "_law_refused" (defArgs s__law_refused) (defBody s__law_refused) (defScope s__law_refused) .none kV7 dc7 pm7 an7 cd7 ct7), sl7⟩)
    (c7 : PySem.W.codeIn K cd7 "_law_refused" = true)
    (k7 : PySem.W.keepIn K (.ref f7) = true)
    (a8 : PySem.W.nsIn K mainGlobals "law" = some (some (.ref f8)))
    (l8 : K.lookup f8 = some ⟨oc8, od8, .func (PySem.W.fnOf "law" "law" (defArgs s_law) (defBody s_law) (defScope s_law) .none kV8 dc8 pm8 an8 cd8 ct8), sl8⟩)
    (c8 : PySem.W.codeIn K cd8 "law" = true)
    (k8 : PySem.W.keepIn K (.ref f8) = true)
    (b_ValueError : PySem.W.nsIn K mainGlobals "ValueError" = some none)
    (b_all : PySem.W.nsIn K mainGlobals "all" = some none)
    (b_isinstance : PySem.W.nsIn K mainGlobals "isinstance" = some none)
    (b_len : PySem.W.nsIn K mainGlobals "len" = some none)
    (b_list : PySem.W.nsIn K mainGlobals "list" = some none)
    (b_max : PySem.W.nsIn K mainGlobals "max" = some none)
    (b_ord : PySem.W.nsIn K mainGlobals "ord" = some none)
    (b_range : PySem.W.nsIn K mainGlobals "range" = some none)
    (b_str : PySem.W.nsIn K mainGlobals "str" = some none)
    (g_MOST_SIGNS : PySem.W.nsIn K mainGlobals "MOST_SIGNS" = some (some (.int 6000 t_MOST_SIGNS)))
    (g_PERCENT : PySem.W.nsIn K mainGlobals "PERCENT" = some (some (.int 37 t_PERCENT)))
    (n_BadText : PySem.W.nsIn K mainGlobals "BadText" = some (some (.ref C_BadText)))
    (n_LoomError : PySem.W.nsIn K mainGlobals "LoomError" = some (some (.ref C_LoomError)))
    (n_BadCount : PySem.W.nsIn K mainGlobals "BadCount" = some (some (.ref C_BadCount)))
    (n_BadName : PySem.W.nsIn K mainGlobals "BadName" = some (some (.ref C_BadName)))
    (n_BadTree : PySem.W.nsIn K mainGlobals "BadTree" = some (some (.ref C_BadTree)))
    (n_NoThing : PySem.W.nsIn K mainGlobals "NoThing" = some (some (.ref C_NoThing)))
    (n_BadCode : PySem.W.nsIn K mainGlobals "BadCode" = some (some (.ref C_BadCode)))
    (q_BadText : PySem.W.excIn K C_BadText [.type "ValueError", .type "Exception", .type "BaseException", .type "object"] "ValueError.__new__" = true)
    (k_BadText : PySem.W.keepIn K (.ref C_BadText) = true)
    (s_BadText : PySem.W.subIn K (.ref C_BadText) (.type "BaseException") = some true)
    (t_BadText : PySem.W.typeIn K (.ref C_BadText) = some (.type "type"))
    (xd_LoomError : PySem.W.hasDictIn K C_LoomError = true)
    (s_LoomError : PySem.W.subIn K (.ref C_LoomError) (.type "BaseException") = some true)
    (t_LoomError : PySem.W.typeIn K (.ref C_LoomError) = some (.type "type"))
    (xd_BadCount : PySem.W.hasDictIn K C_BadCount = true)
    (s_BadCount : PySem.W.subIn K (.ref C_BadCount) (.type "BaseException") = some true)
    (t_BadCount : PySem.W.typeIn K (.ref C_BadCount) = some (.type "type"))
    (xd_BadName : PySem.W.hasDictIn K C_BadName = true)
    (s_BadName : PySem.W.subIn K (.ref C_BadName) (.type "BaseException") = some true)
    (t_BadName : PySem.W.typeIn K (.ref C_BadName) = some (.type "type"))
    (xd_BadTree : PySem.W.hasDictIn K C_BadTree = true)
    (s_BadTree : PySem.W.subIn K (.ref C_BadTree) (.type "BaseException") = some true)
    (t_BadTree : PySem.W.typeIn K (.ref C_BadTree) = some (.type "type"))
    (xd_NoThing : PySem.W.hasDictIn K C_NoThing = true)
    (s_NoThing : PySem.W.subIn K (.ref C_NoThing) (.type "BaseException") = some true)
    (t_NoThing : PySem.W.typeIn K (.ref C_NoThing) = some (.type "type"))
    (xd_BadCode : PySem.W.hasDictIn K C_BadCode = true)
    (s_BadCode : PySem.W.subIn K (.ref C_BadCode) (.type "BaseException") = some true)
    (t_BadCode : PySem.W.typeIn K (.ref C_BadCode) = some (.type "type"))
    (xd_BadText : PySem.W.hasDictIn K C_BadText = true)
    (i_BadText_LoomError : PySem.W.subIn K (.ref C_BadText) (.ref C_LoomError) = some true)
    (i_BadText_BadCount : PySem.W.subIn K (.ref C_BadText) (.ref C_BadCount) = some false)
    (i_BadText_BadName : PySem.W.subIn K (.ref C_BadText) (.ref C_BadName) = some false)
    (i_BadText_BadTree : PySem.W.subIn K (.ref C_BadText) (.ref C_BadTree) = some false)
    (i_BadText_NoThing : PySem.W.subIn K (.ref C_BadText) (.ref C_NoThing) = some false)
    (i_BadText_BadCode : PySem.W.subIn K (.ref C_BadText) (.ref C_BadCode) = some false)
    (i_BadText_BadText : PySem.W.subIn K (.ref C_BadText) (.ref C_BadText) = some true)
    (i_BadText_ValueError : PySem.W.subIn K (.ref C_BadText) (.type "ValueError") = some true)
    (xg_BadText : PySem.W.findIn K (.ref C_BadText) "__getattribute__" = some (some (.builtin "BaseException.__getattribute__")))
    (xk_BadText : PySem.W.findIn K (.ref C_BadText) "__getattr__" = some none)
    (xa_BadText : PySem.W.findIn K (.ref C_BadText) "__class__" = some (some (.builtin "object.__class__")))
    (xm_BadText : PySem.W.mroIn K C_BadText (.type "object") = some true)
    (xn : PySem.W.specialIn K (.builtin "object.__class__") "__get__" = some (some (.builtin "getset_descriptor.__get__")))
    (xt : PySem.W.takesIn K (.builtin "object.__class__") = some true)
    : ∃ fd : FuncData, (∀ (s : Shared) (v : Value), BindsTo s fd ⟨[v], []⟩ [("_law_script", v)]) ∧ ∀ base : Heap, K.In base → base.Ns mainGlobals mg → FnOk l.prog w K mg base (L2.CX l.prog w) 4 fa fd ["_law_script"] (spA K F_law 1) := by
  have e := hfa.symm.trans (PySem.W.mg_of X G a8)
  cases e
  have T : Txt K mg (tabA [C_LoomError, C_BadTree, C_BadText, C_BadName, C_BadCount, C_BadCode, C_NoThing]) := ⟨⟨PySem.W.mg_of X G n_BadText, q_BadText, k_BadText, s_BadText, t_BadText⟩, PySem.W.mg_of X G n_LoomError, PySem.W.mg_of X G n_BadCount, PySem.W.mg_of X G n_BadName, PySem.W.mg_of X G n_BadTree, PySem.W.mg_of X G n_NoThing, PySem.W.mg_of X G n_BadCode, PySem.W.mg_of X G n_BadText, (fun k b h => by unfold hit_LoomError at h; split at h <;> first | (cases h; first | exact PySem.W.exm_ref s_LoomError xd_LoomError t_LoomError i_BadText_LoomError) | cases h), (fun c n b h => by unfold kis at h; split at h <;> first | (cases h; first | exact ⟨⟨xg_BadText, xk_BadText, s_BadText, xd_BadText, xa_BadText, xn, xt, xm_BadText⟩, kit_own i_BadText_BadCount xd_BadCount t_BadCount i_BadText_BadText⟩ | exact ⟨⟨xg_BadText, xk_BadText, s_BadText, xd_BadText, xa_BadText, xn, xt, xm_BadText⟩, kit_own i_BadText_BadName xd_BadName t_BadName i_BadText_BadText⟩ | exact ⟨⟨xg_BadText, xk_BadText, s_BadText, xd_BadText, xa_BadText, xn, xt, xm_BadText⟩, kit_own i_BadText_BadTree xd_BadTree t_BadTree i_BadText_BadText⟩ | exact ⟨⟨xg_BadText, xk_BadText, s_BadText, xd_BadText, xa_BadText, xn, xt, xm_BadText⟩, kit_own i_BadText_NoThing xd_NoThing t_NoThing i_BadText_BadText⟩ | exact ⟨⟨xg_BadText, xk_BadText, s_BadText, xd_BadText, xa_BadText, xn, xt, xm_BadText⟩, kit_own i_BadText_BadCode xd_BadCode t_BadCode i_BadText_BadText⟩ | exact ⟨⟨xg_BadText, xk_BadText, s_BadText, xd_BadText, xa_BadText, xn, xt, xm_BadText⟩, kit_own i_BadText_BadText xd_BadText t_BadText i_BadText_BadText⟩ | exact ⟨⟨xg_BadText, xk_BadText, s_BadText, xd_BadText, xa_BadText, xn, xt, xm_BadText⟩, kit_bt i_BadText_ValueError (by decide +kernel)⟩) | cases h), PySem.W.mg_none_of X G b_ValueError, PySem.W.mg_none_of X G b_all, PySem.W.mg_none_of X G b_isinstance, PySem.W.mg_none_of X G b_len, PySem.W.mg_none_of X G b_list, PySem.W.mg_none_of X G b_max, PySem.W.mg_none_of X G b_ord, PySem.W.mg_none_of X G b_range, PySem.W.mg_none_of X G b_str, ⟨_, PySem.W.mg_of X G g_MOST_SIGNS⟩, ⟨_, PySem.W.mg_of X G g_PERCENT⟩⟩
  have F1 := fun_mk (st := s__law_cell_at) l1 c1 k1
  have B1 := F1.binds (ps := ["_law_script", "_law_k"]) fun _ _ _ _ _ _ us hl => match us, hl with | [_, _], _ => rfl
  have F2 := fun_mk (st := s__law_next) l2 c2 k2
  have B2 := F2.binds (ps := ["_law_state"]) fun _ _ _ _ _ _ us hl => match us, hl with | [_], _ => rfl
  have F3 := fun_mk (st := s__law_signs) l3 c3 k3
  have B3 := F3.binds (ps := []) fun _ _ _ _ _ _ us hl => match us, hl with | [], _ => rfl
  have F4 := fun_mk (st := s__law_made) l4 c4 k4
  have B4 := F4.binds (ps := ["_law_state"]) fun _ _ _ _ _ _ us hl => match us, hl with | [_], _ => rfl
  have F5 := fun_mk (st := s_need_text) l5 c5 k5
  have B5 := F5.binds (ps := ["text"]) fun _ _ _ _ _ _ us hl => match us, hl with | [_], _ => rfl
  have F6 := fun_mk (st := s_words_of) l6 c6 k6
  have B6 := F6.binds (ps := ["text"]) fun _ _ _ _ _ _ us hl => match us, hl with | [_], _ => rfl
  have F7 := fun_mk (st := s__law_refused) l7 c7 k7
  have B7 := F7.binds (ps := ["_law_text"]) fun _ _ _ _ _ _ us hl => match us, hl with | [_], _ => rfl
  have F8 := fun_mk (st := s_law) l8 c8 k8
  refine ⟨PySem.W.fnOf "law" "law" (defArgs s_law) (defBody s_law) (defScope s_law) .none kV8 dc8 pm8 an8 cd8 ct8, fun s v => .of_eq rfl, fun base _ _ => ?_⟩
  have C1 : FnM l.prog w K mg base (tabA [C_LoomError, C_BadTree, C_BadText, C_BadName, C_BadCount, C_BadCode, C_NoThing]) 1 "_law_cell_at" 2 F__law_cell_at := .mk' F1 (PySem.W.mg_of X G a1) B1 (ok__law_cell_at F1 T )
  have C2 : FnM l.prog w K mg base (tabA [C_LoomError, C_BadTree, C_BadText, C_BadName, C_BadCount, C_BadCode, C_NoThing]) 2 "_law_next" 1 F__law_next := .mk' F2 (PySem.W.mg_of X G a2) B2 (ok__law_next F2 T C1)
  have C3 : FnM l.prog w K mg base (tabA [C_LoomError, C_BadTree, C_BadText, C_BadName, C_BadCount, C_BadCode, C_NoThing]) 1 "_law_signs" 0 F__law_signs := .mk' F3 (PySem.W.mg_of X G a3) B3 (ok__law_signs F3 T )
  have C4 : FnM l.prog w K mg base (tabA [C_LoomError, C_BadTree, C_BadText, C_BadName, C_BadCount, C_BadCode, C_NoThing]) 3 "_law_made" 1 F__law_made := .mk' F4 (PySem.W.mg_of X G a4) B4 (ok__law_made F4 T C2 C3)
  have C5 : FnM l.prog w K mg base (tabA [C_LoomError, C_BadTree, C_BadText, C_BadName, C_BadCount, C_BadCode, C_NoThing]) 1 "need_text" 1 F_need_text := .mk' F5 (PySem.W.mg_of X G a5) B5 (ok_need_text F5 T )
  have C6 : FnM l.prog w K mg base (tabA [C_LoomError, C_BadTree, C_BadText, C_BadName, C_BadCount, C_BadCode, C_NoThing]) 2 "words_of" 1 F_words_of := .mk' F6 (PySem.W.mg_of X G a6) B6 (ok_words_of F6 T C5)
  have C7 : FnM l.prog w K mg base (tabA [C_LoomError, C_BadTree, C_BadText, C_BadName, C_BadCount, C_BadCode, C_NoThing]) 3 "_law_refused" 1 F__law_refused := .mk' F7 (PySem.W.mg_of X G a7) B7 (ok__law_refused F7 T C6)
  exact spA_of (ok_law F8 T C4 C2 C7 C6)
end K04
open PySem PySem.W PyProof.Rows
set_option maxHeartbeats 0 in
theorem PySem.Challenge.cw_waitloom_k04_words_holds : PySem.Challenge.rw_waitloom_k04_words.Holds := by
  w_on; o_law; k_head; (case hw => w_witness2)
  k_fill
  refine L2.walk_of (l := PySem.Challenge.rw_waitloom_k04_words) (n := 63) (k := 4) (x := "_law_script") (CX := fun w => L2.CX PySem.Challenge.rw_waitloom_k04_words.prog w) (sp := fun w => ML.spA _ K04.F_law 1) rfl (by decide) rfl ⟨rfl, by decide, by decide⟩ (fun w h Y => PySem.W.kIn_of Y) ?F (fun w H a ns hn hO hS => ML.law_spA K04.law_true hn hO hS) (fun _ _ _ _ _ h => ML.cx_end h)
  case F =>
    intro w mg fa h KX G hmg
    refine' K04.all_mk KX G hmg ?a1 ?l1 ?c1 ?k1 ?a2 ?l2 ?c2 ?k2 ?a3 ?l3 ?c3 ?k3 ?a4 ?l4 ?c4 ?k4 ?a5 ?l5 ?c5 ?k5 ?a6 ?l6 ?c6 ?k6 ?a7 ?l7 ?c7 ?k7 ?a8 ?l8 ?c8 ?k8 ?b_ValueError ?b_all ?b_isinstance ?b_len ?b_list ?b_max ?b_ord ?b_range ?b_str ?g_MOST_SIGNS ?g_PERCENT ?n_BadText ?n_LoomError ?n_BadCount ?n_BadName ?n_BadTree ?n_NoThing ?n_BadCode ?q_BadText ?k_BadText ?s_BadText ?t_BadText ?xd_LoomError ?s_LoomError ?t_LoomError ?xd_BadCount ?s_BadCount ?t_BadCount ?xd_BadName ?s_BadName ?t_BadName ?xd_BadTree ?s_BadTree ?t_BadTree ?xd_NoThing ?s_NoThing ?t_NoThing ?xd_BadCode ?s_BadCode ?t_BadCode ?xd_BadText ?i_BadText_LoomError ?i_BadText_BadCount ?i_BadText_BadName ?i_BadText_BadTree ?i_BadText_NoThing ?i_BadText_BadCode ?i_BadText_BadText ?i_BadText_ValueError ?xg_BadText ?xk_BadText ?xa_BadText ?xm_BadText ?xn ?xt
    (case a1 => k_is)
    (case l1 => k_is)
    (case c1 => k_is)
    (case k1 => k_is)
    (case a2 => k_is)
    (case l2 => k_is)
    (case c2 => k_is)
    (case k2 => k_is)
    (case a3 => k_is)
    (case l3 => k_is)
    (case c3 => k_is)
    (case k3 => k_is)
    (case a4 => k_is)
    (case l4 => k_is)
    (case c4 => k_is)
    (case k4 => k_is)
    (case a5 => k_is)
    (case l5 => k_is)
    (case c5 => k_is)
    (case k5 => k_is)
    (case a6 => k_is)
    (case l6 => k_is)
    (case c6 => k_is)
    (case k6 => k_is)
    (case a7 => k_is)
    (case l7 => k_is)
    (case c7 => k_is)
    (case k7 => k_is)
    (case a8 => k_is)
    (case l8 => k_is)
    (case c8 => k_is)
    (case k8 => k_is)
    (case b_ValueError => k_is)
    (case b_all => k_is)
    (case b_isinstance => k_is)
    (case b_len => k_is)
    (case b_list => k_is)
    (case b_max => k_is)
    (case b_ord => k_is)
    (case b_range => k_is)
    (case b_str => k_is)
    (case g_MOST_SIGNS => k_is)
    (case g_PERCENT => k_is)
    (case n_BadText => k_is)
    (case n_LoomError => k_is)
    (case n_BadCount => k_is)
    (case n_BadName => k_is)
    (case n_BadTree => k_is)
    (case n_NoThing => k_is)
    (case n_BadCode => k_is)
    (case q_BadText => k_exc)
    (case k_BadText => k_is)
    (case s_BadText => k_is)
    (case t_BadText => k_is)
    (case xd_LoomError => k_is)
    (case s_LoomError => k_is)
    (case t_LoomError => k_is)
    (case xd_BadCount => k_is)
    (case s_BadCount => k_is)
    (case t_BadCount => k_is)
    (case xd_BadName => k_is)
    (case s_BadName => k_is)
    (case t_BadName => k_is)
    (case xd_BadTree => k_is)
    (case s_BadTree => k_is)
    (case t_BadTree => k_is)
    (case xd_NoThing => k_is)
    (case s_NoThing => k_is)
    (case t_NoThing => k_is)
    (case xd_BadCode => k_is)
    (case s_BadCode => k_is)
    (case t_BadCode => k_is)
    (case xd_BadText => k_is)
    (case i_BadText_LoomError => k_is)
    (case i_BadText_BadCount => k_is)
    (case i_BadText_BadName => k_is)
    (case i_BadText_BadTree => k_is)
    (case i_BadText_NoThing => k_is)
    (case i_BadText_BadCode => k_is)
    (case i_BadText_BadText => k_is)
    (case i_BadText_ValueError => k_is)
    (case xg_BadText => k_is)
    (case xk_BadText => k_is)
    (case xa_BadText => k_is)
    (case xm_BadText => k_is)
    (case xn => k_is)
    (case xt => k_is)
