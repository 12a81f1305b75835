import PyProof.Rows.All
import Wide.All
import OpenK.AllK
import Wide.FinOn
import HandS.ForMost
import HandS.ForExc
import HandS.IsInst
import HandS.TupAny
import HandS.TupLe
import HandS.Small
import HandS.Text
import HandS.Conv
import HandS.SortInts
import HandS.More
import HandS.ExcIs
import PySem.Challenge.RW_waitloom_k25_whole_collected
set_option Elab.async false
set_option linter.all false
set_option maxRecDepth 100000
set_option autoImplicit false
/-! ML: a layer of plain functions over HandS. A def of the text is mirrored by a function over plain data D and a store of cells; the canonical reading (tE, tB, ..) says that the code does what the function does. -/
namespace ML
open PySem PySem.Spec L2

/-! ### plain data -/
inductive D where
  | non | bl (b : Bool) | int (i : Int) | str (x : Str) | tup (xs : List D) | lis (xs : List D) | ref (n : Nat) | exn (a : Addr)
inductive Cell where
  | lst (xs : List D)
  | dct (kvs : List (Key × D))
  | dlk (kvs : List (Key × D))
  | ins (c : Nat) (fs : List (Str × D))
abbrev Store := List Cell
abbrev Loc := List (Option D)
structure Exn where
  c : Nat
  fs : List (Str × D)
inductive R (α : Type) where
  | ok (a : α) (S : Store)
  | ex (x : Exn) (S : Store)
  | bad
def R.bind {α β : Type} (r : R α) (f : α → Store → R β) : R β := match r with
  | .ok a S => f a S
  | .ex x S => .ex x S
  | .bad => .bad
@[simp] theorem R.bind_ok {α β : Type} (a : α) (S : Store) (f : α → Store → R β) : (R.ok a S).bind f = f a S := (rfl)
@[simp] theorem R.bind_ex {α β : Type} (x : Exn) (S : Store) (f : α → Store → R β) : (R.ex x S).bind f = .ex x S := (rfl)
@[simp] theorem R.bind_bad {α β : Type} (f : α → Store → R β) : (R.bad : R α).bind f = .bad := (rfl)
theorem R.bind_assoc {α β γ : Type} (r : R α) (f : α → Store → R β) (g : β → Store → R γ) : (r.bind f).bind g = r.bind fun a S => (f a S).bind g := by
  cases r <;> rfl

/-! ### how plain data lies in the abstract heap -/
/-- a list that is never written: the script -/
def FrL (K : PySem.W.Frag) (H : Hp) (a : Addr) (vs : List V) : Prop :=
  (∃ o, H a = some (.frz o (.lst vs))) ∨
    ∃ (o : Obj) (its : Array Value) (n : Nat), K.lookup a = some o ∧ o.cls = .type "list" ∧ o.dict = none ∧ o.data = .seq its n ∧ its.size ≤ sizeLine ∧ Vals vs its.toList
theorem FrL.sq {K : PySem.W.Frag} {H : Hp} {a : Addr} {vs : List V} (h : FrL K H a vs) : SqL K H a vs := by
  rcases h with ⟨o, h⟩ | h
  · exact .inl (.inr ⟨o, h⟩)
  · exact .inr h
mutual
def RepV (K : PySem.W.Frag) (ρ : List Addr) (H : Hp) : D → V → Prop
  | .non, v => v = .non
  | .bl b, v => v = .bl b
  | .int i, v => v = .int i
  | .str x, v => v = .str x
  | .tup xs, v => ∃ a vs, v = .ref a ∧ SqT K H a vs ∧ RepVs K ρ H xs vs
  | .lis xs, v => ∃ a vs, v = .ref a ∧ FrL K H a vs ∧ RepVs K ρ H xs vs
  | .ref n, v => ∃ a, ρ[n]? = some a ∧ v = .ref a
  | .exn a, v => v = .ref a
def RepVs (K : PySem.W.Frag) (ρ : List Addr) (H : Hp) : List D → List V → Prop
  | [], vs => vs = []
  | x :: xs, vs => ∃ v r, vs = v :: r ∧ RepV K ρ H x v ∧ RepVs K ρ H xs r
end
def RepP (K : PySem.W.Frag) (ρ : List Addr) (H : Hp) {κ : Type} : List (κ × D) → List (κ × V) → Prop
  | [], ps => ps = []
  | (k, x) :: r, ps => ∃ v q, ps = (k, v) :: q ∧ RepV K ρ H x v ∧ RepP K ρ H r q
def RepC (K : PySem.W.Frag) (cA : Nat → Addr) (ρ : List Addr) (H : Hp) (c : Cell) (a : Addr) : Prop := match c with
  | .lst xs => ∃ vs, H a = some (.lst vs) ∧ RepVs K ρ H xs vs
  | .dct kvs => ∃ ps, H a = some (.dK ps) ∧ RepP K ρ H kvs ps
  | .dlk kvs => ∃ o ps, H a = some (.frz o (.dK ps)) ∧ RepP K ρ H kvs ps
  | .ins c fs => ∃ dx ps, H a = some (.ins (cA c) dx ps) ∧ RepP K ρ H fs ps
structure Reps (K : PySem.W.Frag) (cA : Nat → Addr) (ρ : List Addr) (H : Hp) (S : Store) : Prop where
  len : ρ.length = S.length
  nd : ρ.Nodup
  at_ : ∀ (n : Nat) (c : Cell) (a : Addr), S[n]? = some c → ρ[n]? = some a → RepC K cA ρ H c a
def RepX (K : PySem.W.Frag) (cA : Nat → Addr) (ρ : List Addr) (H : Hp) (x : Exn) (c : Value) (d : Option Addr) : Prop :=
  c = .ref (cA x.c) ∧ ((x.fs = [] ∧ d = none) ∨ x.fs ≠ [] ∧ ∃ a ps, d = some a ∧ H a = some (.xd ps) ∧ RepP K ρ H x.fs ps)
structure RepL (K : PySem.W.Frag) (ρ : List Addr) (H : Hp) (l : Loc) (σ : St) : Prop where
  len : l.length = σ.length
  at_ : ∀ (i : Nat) (d : D), l[i]? = some (some d) → ∃ v, σ[i]? = some (some v) ∧ RepV K ρ H d v
/-- what may have happened -/
structure Ext (ρ : List Addr) (H : Hp) (ρ' : List Addr) (H' : Hp) : Prop where
  pre : ∃ r, ρ' = ρ ++ r ∧ ∀ a ∈ r, H a = none
  keep : ∀ a o, H a = some o → a ∉ ρ → H' a = some o
  tups : ∀ a xs, Rd H a (.tup xs) → Rd H' a (.tup xs)
  frzs : ∀ a o xs, H a = some (.frz o (.lst xs)) → H' a = some (.frz o (.lst xs))
  there : ∀ a, H a ≠ none → H' a ≠ none
theorem Ext.refl (ρ : List Addr) (H : Hp) : Ext ρ H ρ H := ⟨⟨[], by simp, fun _ h => nomatch h⟩, fun _ _ h _ => h, fun _ _ h => h, fun _ _ _ h => h, fun _ h => h⟩
theorem Ext.trans {ρ ρ1 ρ2 : List Addr} {H H1 H2 : Hp} (a : Ext ρ H ρ1 H1) (b : Ext ρ1 H1 ρ2 H2) : Ext ρ H ρ2 H2 := by
  obtain ⟨r1, e1, n1⟩ := a.pre
  obtain ⟨r2, e2, n2⟩ := b.pre
  refine ⟨⟨r1 ++ r2, by rw [e2, e1, List.append_assoc], fun x hx => ?_⟩, fun x o h nx => ?_, fun x xs h => b.tups x xs (a.tups x xs h), fun x o xs h => b.frzs x o xs (a.frzs x o xs h), fun x h => b.there x (a.there x h)⟩
  · rcases List.mem_append.mp hx with h | h
    · exact n1 x h
    · have q := n2 x h
      cases e : H x with
      | none => rfl
      | some o => exact absurd q (a.there x (by rw [e]; simp))
  · refine b.keep x o (a.keep x o h nx) fun hx => ?_
    rw [e1] at hx
    rcases List.mem_append.mp hx with q | q
    · exact nx q
    · have := n1 x q
      rw [h] at this
      cases this
theorem SqT.ext {K : PySem.W.Frag} {ρ ρ' : List Addr} {H H' : Hp} {a : Addr} {vs : List V} (e : Ext ρ H ρ' H') (h : SqT K H a vs) : SqT K H' a vs := by
  rcases h with h | h
  · exact .inl (e.tups a vs h)
  · exact .inr h
theorem FrL.ext {K : PySem.W.Frag} {ρ ρ' : List Addr} {H H' : Hp} {a : Addr} {vs : List V} (e : Ext ρ H ρ' H') (h : FrL K H a vs) : FrL K H' a vs := by
  rcases h with ⟨o, h⟩ | h
  · exact .inl ⟨o, e.frzs a o vs h⟩
  · exact .inr h
mutual
theorem RepV.ext {K : PySem.W.Frag} {ρ ρ' : List Addr} {H H' : Hp} (e : Ext ρ H ρ' H') : ∀ {d : D} {v : V}, RepV K ρ H d v → RepV K ρ' H' d v
  | .non, _, h => h
  | .bl _, _, h => h
  | .int _, _, h => h
  | .str _, _, h => h
  | .tup xs, v, h => by
    unfold RepV at h ⊢
    obtain ⟨a, vs, ev, hs, hr⟩ := h
    exact ⟨a, vs, ev, SqT.ext e hs, RepVs.ext e hr⟩
  | .lis xs, v, h => by
    unfold RepV at h ⊢
    obtain ⟨a, vs, ev, hs, hr⟩ := h
    exact ⟨a, vs, ev, hs.ext e, RepVs.ext e hr⟩
  | .ref n, v, h => by
    unfold RepV at h ⊢
    obtain ⟨a, ha, ev⟩ := h
    obtain ⟨r, er, _⟩ := e.pre
    refine ⟨a, ?_, ev⟩
    rw [er]
    have hn : n < ρ.length := (List.getElem?_eq_some_iff.mp ha).1
    rw [List.getElem?_append_left hn]
    exact ha
  | .exn _, _, h => h
theorem RepVs.ext {K : PySem.W.Frag} {ρ ρ' : List Addr} {H H' : Hp} (e : Ext ρ H ρ' H') : ∀ {ds : List D} {vs : List V}, RepVs K ρ H ds vs → RepVs K ρ' H' ds vs
  | [], _, h => h
  | x :: xs, vs, h => by
    unfold RepVs at h ⊢
    obtain ⟨v, r, ev, h1, h2⟩ := h
    exact ⟨v, r, ev, RepV.ext e h1, RepVs.ext e h2⟩
end
theorem RepP.ext {K : PySem.W.Frag} {ρ ρ' : List Addr} {H H' : Hp} (e : Ext ρ H ρ' H') {κ : Type} : ∀ {kvs : List (κ × D)} {ps : List (κ × V)}, RepP K ρ H kvs ps → RepP K ρ' H' kvs ps
  | [], _, h => h
  | (k, x) :: r, ps, h => by
    unfold RepP at h ⊢
    obtain ⟨v, q, ev, h1, h2⟩ := h
    exact ⟨v, q, ev, h1.ext e, RepP.ext e h2⟩
theorem RepL.ext {K : PySem.W.Frag} {ρ ρ' : List Addr} {H H' : Hp} {l : Loc} {σ : St} (e : Ext ρ H ρ' H') (h : RepL K ρ H l σ) : RepL K ρ' H' l σ :=
  ⟨h.len, fun i d hd => let ⟨v, hv, r⟩ := h.at_ i d hd; ⟨v, hv, r.ext e⟩⟩
/-- a cell that is untouched -/
theorem RepC.ext {K : PySem.W.Frag} {cA : Nat → Addr} {ρ ρ' : List Addr} {H H' : Hp} {c : Cell} {a : Addr} (e : Ext ρ H ρ' H') (same : H' a = H a) (h : RepC K cA ρ H c a) : RepC K cA ρ' H' c a := by
  cases c with
  | lst xs => obtain ⟨vs, h1, h2⟩ := h; exact ⟨vs, same.trans h1, h2.ext e⟩
  | dct kvs => obtain ⟨ps, h1, h2⟩ := h; exact ⟨ps, same.trans h1, h2.ext e⟩
  | dlk kvs => obtain ⟨o, ps, h1, h2⟩ := h; exact ⟨o, ps, same.trans h1, h2.ext e⟩
  | ins c fs => obtain ⟨dx, ps, h1, h2⟩ := h; exact ⟨dx, ps, same.trans h1, h2.ext e⟩
theorem RepC.there {K : PySem.W.Frag} {cA : Nat → Addr} {ρ : List Addr} {H : Hp} {c : Cell} {a : Addr} (h : RepC K cA ρ H c a) : ∃ o, H a = some o ∧ ∀ xs, o ≠ .tup xs ∧ ∀ u, o ≠ .frz u (.tup xs) ∧ o ≠ .frz u (.lst xs) := by
  cases c with
  | lst xs => obtain ⟨vs, h1, h2⟩ := h; exact ⟨_, h1, fun _ => ⟨(nomatch ·), fun _ => ⟨(nomatch ·), (nomatch ·)⟩⟩⟩
  | dct kvs => obtain ⟨ps, h1, h2⟩ := h; exact ⟨_, h1, fun _ => ⟨(nomatch ·), fun _ => ⟨(nomatch ·), (nomatch ·)⟩⟩⟩
  | dlk kvs => obtain ⟨o, ps, h1, h2⟩ := h; exact ⟨_, h1, fun _ => ⟨(nomatch ·), fun _ => ⟨(nomatch ·), (nomatch ·)⟩⟩⟩
  | ins c fs => obtain ⟨dx, ps, h1, h2⟩ := h; exact ⟨_, h1, fun _ => ⟨(nomatch ·), fun _ => ⟨(nomatch ·), (nomatch ·)⟩⟩⟩
section
variable {K : PySem.W.Frag} {cA : Nat → Addr} {ρ : List Addr} {H : Hp} {S : Store}
theorem Reps.get (h : Reps K cA ρ H S) {n : Nat} {c : Cell} (e : S[n]? = some c) : ∃ a, ρ[n]? = some a ∧ RepC K cA ρ H c a := by
  have hn : n < S.length := (List.getElem?_eq_some_iff.mp e).1
  have hr : n < ρ.length := by rw [h.len]; exact hn
  exact ⟨ρ[n], List.getElem?_eq_getElem hr, h.at_ n c _ e (List.getElem?_eq_getElem hr)⟩
theorem Reps.mem (h : Reps K cA ρ H S) {a : Addr} (ha : a ∈ ρ) : ∃ o, H a = some o ∧ ∀ xs, o ≠ .tup xs ∧ ∀ u, o ≠ .frz u (.tup xs) ∧ o ≠ .frz u (.lst xs) := by
  obtain ⟨n, hn⟩ := List.getElem?_of_mem ha
  have hl : n < S.length := by rw [← h.len]; exact (List.getElem?_eq_some_iff.mp hn).1
  exact (h.at_ n _ a (List.getElem?_eq_getElem hl) hn).there
/-- a new tracked thing outside of the store -/
theorem Ext.new {p : Addr} {o : HO} (hp : H p = none) : Ext ρ H ρ (upd H p o) := by
  have ne : ∀ {a u}, H a = some u → a ≠ p := fun h => ne_of_none h hp
  refine ⟨⟨[], by simp, fun _ h => nomatch h⟩, fun a u h _ => by rw [upd_ne (ne h)]; exact h, fun a xs h => ?_, fun a u xs h => by rw [upd_ne (ne h)]; exact h, fun a h => ?_⟩
  · rcases h with h | ⟨u, h⟩
    · exact .inl (by rw [upd_ne (ne h)]; exact h)
    · exact .inr ⟨u, by rw [upd_ne (ne h)]; exact h⟩
  · by_cases e : a = p
    · subst e; exact absurd hp h
    · rw [upd_ne e]; exact h
theorem Reps.new (h : Reps K cA ρ H S) {p : Addr} {o : HO} (hp : H p = none) : Reps K cA ρ (upd H p o) S :=
  ⟨h.len, h.nd, fun n c a hc ha => (h.at_ n c a hc ha).ext (Ext.new hp) (by
    obtain ⟨u, hu, _⟩ := (h.at_ n c a hc ha).there
    rw [upd_ne (ne_of_none hu hp)])⟩
/-- a tracked thing outside of the store is changed (a list that is being built) -/
theorem Reps.other (h : Reps K cA ρ H S) {H' : Hp} (e : Ext ρ H ρ H') (same : ∀ a ∈ ρ, H' a = H a) : Reps K cA ρ H' S :=
  ⟨h.len, h.nd, fun n c a hc ha => (h.at_ n c a hc ha).ext e (same a (List.mem_of_getElem? ha))⟩
/-- a thing is taken into the store -/
theorem Ext.alloc {p : Addr} {o : HO} (hp : H p = none) : Ext ρ H (ρ ++ [p]) (upd H p o) := by
  have x := Ext.new (ρ := ρ) (o := o) hp
  exact ⟨⟨[p], rfl, fun a h => by have e : a = p := by simpa using h
                                  rw [e]; exact hp⟩, x.keep, x.tups, x.frzs, x.there⟩
theorem Ext.take {H' : Hp} {ρ' : List Addr} {p : Addr} (e : Ext ρ H ρ' H') (hp : H p = none) : Ext ρ H (ρ' ++ [p]) H' := by
  obtain ⟨r, er, nr⟩ := e.pre
  refine ⟨⟨r ++ [p], by rw [er, List.append_assoc], fun a h => ?_⟩, e.keep, e.tups, e.frzs, e.there⟩
  rcases List.mem_append.mp h with h | h
  · exact nr a h
  · have q : a = p := by simpa using h
    rw [q]; exact hp
theorem Ext.grow {p : Addr} : (∀ a, H a ≠ none → H a ≠ none) → H p = none → Ext ρ H (ρ ++ [p]) H := fun _ hp => (Ext.refl ρ H).take hp
end
mutual
/-- data over a store that has grown -/
theorem RepV.grow {K : PySem.W.Frag} {ρ r : List Addr} {H : Hp} : ∀ {d : D} {v : V}, RepV K ρ H d v → RepV K (ρ ++ r) H d v
  | .non, _, h => h
  | .bl _, _, h => h
  | .int _, _, h => h
  | .str _, _, h => h
  | .tup xs, v, h => by
    unfold RepV at h ⊢
    obtain ⟨a, vs, ev, hs, hr⟩ := h
    exact ⟨a, vs, ev, hs, RepVs.grow hr⟩
  | .lis xs, v, h => by
    unfold RepV at h ⊢
    obtain ⟨a, vs, ev, hs, hr⟩ := h
    exact ⟨a, vs, ev, hs, RepVs.grow hr⟩
  | .ref n, v, h => by
    unfold RepV at h ⊢
    obtain ⟨a, ha, ev⟩ := h
    refine ⟨a, ?_, ev⟩
    rw [List.getElem?_append_left (List.getElem?_eq_some_iff.mp ha).1]
    exact ha
  | .exn _, _, h => h
theorem RepVs.grow {K : PySem.W.Frag} {ρ r : List Addr} {H : Hp} : ∀ {ds : List D} {vs : List V}, RepVs K ρ H ds vs → RepVs K (ρ ++ r) H ds vs
  | [], _, h => h
  | x :: xs, vs, h => by
    unfold RepVs at h ⊢
    obtain ⟨v, q, ev, h1, h2⟩ := h
    exact ⟨v, q, ev, RepV.grow h1, RepVs.grow h2⟩
end
theorem RepP.grow {K : PySem.W.Frag} {ρ r : List Addr} {H : Hp} {κ : Type} : ∀ {kvs : List (κ × D)} {ps : List (κ × V)}, RepP K ρ H kvs ps → RepP K (ρ ++ r) H kvs ps
  | [], _, h => h
  | (k, x) :: q, ps, h => by
    unfold RepP at h ⊢
    obtain ⟨v, q, ev, h1, h2⟩ := h
    exact ⟨v, q, ev, h1.grow, RepP.grow h2⟩
section
variable {K : PySem.W.Frag} {cA : Nat → Addr} {ρ : List Addr} {H : Hp} {S : Store}
theorem RepC.grow {r : List Addr} {c : Cell} {a : Addr} (h : RepC K cA ρ H c a) : RepC K cA (ρ ++ r) H c a := by
  cases c with
  | lst xs => obtain ⟨vs, h1, h2⟩ := h; exact ⟨vs, h1, h2.grow⟩
  | dct kvs => obtain ⟨ps, h1, h2⟩ := h; exact ⟨ps, h1, h2.grow⟩
  | dlk kvs => obtain ⟨o, ps, h1, h2⟩ := h; exact ⟨o, ps, h1, h2.grow⟩
  | ins c fs => obtain ⟨dx, ps, h1, h2⟩ := h; exact ⟨dx, ps, h1, h2.grow⟩
/-- a cell is laid behind the store -/
theorem Reps.push (h : Reps K cA ρ H S) {p : Addr} {c : Cell} (hn : p ∉ ρ) (hc : RepC K cA ρ H c p) : Reps K cA (ρ ++ [p]) H (S ++ [c]) := by
  refine ⟨by rw [List.length_append, List.length_append, h.len]; rfl, List.nodup_append.mpr ⟨h.nd, by simp, fun a ha b hb => ?_⟩, fun n c' a hc' ha => ?_⟩
  · have e : b = p := by simpa using hb
    rintro rfl
    rw [← e] at hn
    exact hn ha
  · by_cases q : n < S.length
    · rw [List.getElem?_append_left q] at hc'
      rw [List.getElem?_append_left (by rw [h.len]; exact q)] at ha
      exact (h.at_ n c' a hc' ha).grow
    · have hq : n = S.length := by
        have := (List.getElem?_eq_some_iff.mp hc').1
        rw [List.length_append] at this
        simp only [List.length_cons, List.length_nil] at this
        omega
      rw [hq, List.getElem?_append_right (Nat.le_refl _)] at hc'
      rw [hq, List.getElem?_append_right (by rw [h.len]; exact Nat.le_refl _), h.len] at ha
      simp at hc' ha
      subst hc' ha
      exact hc.grow
/-- a cell is written -/
theorem Ext.write {n : Nat} {a : Addr} {o u : HO} (ha : ρ[n]? = some a) (hu : H a = some u) (mu : Mut (some u)) : Ext ρ H ρ (upd H a o) := by
  refine ⟨⟨[], by simp, fun _ h => nomatch h⟩, fun b q h nb => ?_, fun b xs h => ?_, fun b q xs h => ?_, fun b h => ?_⟩
  · have ne : b ≠ a := fun e => nb (by rw [e]; exact List.mem_of_getElem? ha)
    rw [upd_ne ne]; exact h
  · have ne : b ≠ a := by
      rintro rfl
      rcases h with h | ⟨v, h⟩ <;> (rw [h] at hu; cases hu; exact mu)
    rcases h with h | ⟨v, h⟩
    · exact .inl (by rw [upd_ne ne]; exact h)
    · exact .inr ⟨v, by rw [upd_ne ne]; exact h⟩
  · have ne : b ≠ a := by
      rintro rfl
      rw [h] at hu; cases hu; exact mu
    rw [upd_ne ne]; exact h
  · by_cases e : b = a
    · rw [e, upd_same]; simp
    · rw [upd_ne e]; exact h
theorem Reps.write (h : Reps K cA ρ H S) {n : Nat} {a : Addr} {o u : HO} {c : Cell} (ha : ρ[n]? = some a) (hu : H a = some u) (mu : Mut (some u)) (hc : RepC K cA ρ (upd H a o) c a) : Reps K cA ρ (upd H a o) (S.set n c) := by
  have e : Ext ρ H ρ (upd H a o) := Ext.write ha hu mu
  refine ⟨by rw [List.length_set]; exact h.len, h.nd, fun m c' b hc' hb => ?_⟩
  by_cases q : m = n
  · subst q
    rw [ha] at hb
    cases hb
    have hm : m < S.length := by
      have := (List.getElem?_eq_some_iff.mp hc').1
      rwa [List.length_set] at this
    rw [List.getElem?_set_self hm] at hc'
    cases hc'
    exact hc
  · rw [List.getElem?_set_ne (Ne.symm q)] at hc'
    have ne : b ≠ a := by
      rintro rfl
      exact q (nodup_ix' h.nd hb ha)
    exact (h.at_ m c' b hc' hb).ext e (upd_ne ne)
where
  nodup_ix' {N : List Addr} (hN : N.Nodup) {i j : Nat} {x : Addr} (a : N[i]? = some x) (b : N[j]? = some x) : i = j := by
    obtain ⟨h1, e1⟩ := List.getElem?_eq_some_iff.mp a
    obtain ⟨h2, e2⟩ := List.getElem?_eq_some_iff.mp b
    exact (List.getElem_inj hN).mp (e1.trans e2.symm)
end

/-! ### the canonical reading -/
section
variable {α β : Type}
abbrev Rel (α β : Type) := Hp → List Addr → Hp → α → β → Prop
def After (K : PySem.W.Frag) (cA : Nat → Addr) (W : XK) (ρ : List Addr) (H : Hp) (rep : Rel α β) (r : R α) (Q : β → Hp → Prop) : Prop := match r with
  | .ok a S => ∀ ρ' H' b, Ext ρ H ρ' H' → Reps K cA ρ' H' S → rep H ρ' H' a b → Q b H'
  | .ex x S => ∀ ρ' H' c d, Ext ρ H ρ' H' → Reps K cA ρ' H' S → RepX K cA ρ' H' x c d → W c d H'
  | .bad => False
variable {K : PySem.W.Frag} {cA : Nat → Addr} {W : XK} {ρ ρ0 : List Addr} {H H0 : Hp}
theorem After.imp {rep : Rel α β} {r : R α} {Q Q' : β → Hp → Prop} (h : After K cA W ρ H rep r Q) (q : ∀ b H', Q b H' → Q' b H') : After K cA W ρ H rep r Q' := by
  cases r with
  | ok a S => exact fun ρ' H' b e hs hr => q b H' (h ρ' H' b e hs hr)
  | ex x S => exact h
  | bad => exact h
/-- what a relation must bear: it may be told of an earlier heap -/
def Stable (rep : Rel α β) : Prop := ∀ (ρ : List Addr) (H : Hp) (ρ1 : List Addr) (H1 : Hp) (ρ' : List Addr) (H' : Hp) (a : α) (b : β), Ext ρ H ρ1 H1 → rep H1 ρ' H' a b → rep H ρ' H' a b
theorem After.back {rep : Rel α β} (st : Stable rep) {r : R α} {Q : β → Hp → Prop} (e : Ext ρ0 H0 ρ H) (h : After K cA W ρ0 H0 rep r Q) : After K cA W ρ H rep r Q := by
  cases r with
  | ok a S => exact fun ρ' H' b e' hs hr => h ρ' H' b (e.trans e') hs (st _ _ _ _ _ _ _ _ e hr)
  | ex x S => exact fun ρ' H' c d e' hs hr => h ρ' H' c d (e.trans e') hs hr
  | bad => exact h
/-- one thing, then another -/
theorem After.bind {γ δ : Type} {rep : Rel α β} {rep' : Rel γ δ} (st : Stable rep') {r : R α} {f : α → Store → R γ} {Q : δ → Hp → Prop} (h : After K cA W ρ H rep' (r.bind f) Q) :
    After K cA W ρ H rep r fun b H1 => ∃ ρ1 S1 a, Ext ρ H ρ1 H1 ∧ Reps K cA ρ1 H1 S1 ∧ rep H ρ1 H1 a b ∧ After K cA W ρ1 H1 rep' (f a S1) Q := by
  cases r with
  | ok a S => exact fun ρ' H' b e hs hr => ⟨ρ', S, a, e, hs, hr, h.back st e⟩
  | ex x S => exact h
  | bad => exact h
end
/-- the relations -/
abbrev rV (K : PySem.W.Frag) : Rel D V := fun _ ρ H d v => RepV K ρ H d v
abbrev rVs (K : PySem.W.Frag) : Rel (List D) (List V) := fun _ ρ H d v => RepVs K ρ H d v
abbrev rId {α : Type} : Rel α α := fun _ _ _ a b => a = b
/-- a new list that nobody else has -/
def rNew (K : PySem.W.Frag) : Rel (List D) V := fun H0 ρ H ds v => ∃ p vs, v = .ref p ∧ H0 p = none ∧ p ∉ ρ ∧ H p = some (.lst vs) ∧ RepVs K ρ H ds vs
theorem st_V {K : PySem.W.Frag} : Stable (rV K) := fun _ _ _ _ _ _ _ _ _ h => h
theorem st_Vs {K : PySem.W.Frag} : Stable (rVs K) := fun _ _ _ _ _ _ _ _ _ h => h
theorem st_Id {α : Type} : Stable (rId (α := α)) := fun _ _ _ _ _ _ _ _ _ h => h
theorem st_New {K : PySem.W.Frag} : Stable (rNew K) := fun ρ H ρ1 H1 ρ' H' a b e h => by
  obtain ⟨p, vs, ev, h0, h1, h2, h3⟩ := h
  refine ⟨p, vs, ev, ?_, h1, h2, h3⟩
  cases q : H p with
  | none => rfl
  | some o => exact absurd h0 (e.there p (by rw [q]; simp))
section
variable {α β : Type}
def tG (K : PySem.W.Frag) (cA : Nat → Addr) (W : XK) (rep : Rel α β) (m : Loc → Store → R α) : St → Hp → (β → Hp → Prop) → Prop := fun σ H Q =>
  ∃ ρ S l, Reps K cA ρ H S ∧ RepL K ρ H l σ ∧ After K cA W ρ H rep (m l S) Q
end
abbrev ME := Loc → Store → R D
abbrev MB := Loc → Store → R Bool
abbrev MA := Loc → Store → R (List D)
abbrev tE (K : PySem.W.Frag) (cA : Nat → Addr) (W : XK) (m : ME) : TE := tG K cA W (rV K) m
abbrev tT (K : PySem.W.Frag) (cA : Nat → Addr) (W : XK) (m : MB) : TT := tG K cA W rId m
abbrev tAs (K : PySem.W.Frag) (cA : Nat → Addr) (W : XK) (m : MA) : TA := tG K cA W (rVs K) m
abbrev tNw (K : PySem.W.Frag) (cA : Nat → Addr) (W : XK) (m : MA) : TE := tG K cA W (rNew K) m
/-- operations on values -/
def t2 (K : PySem.W.Frag) (cA : Nat → Addr) (W : XK) {β : Type} {α : Type} (rep : Rel α β) (f : D → D → Store → R α) : V → V → Hp → (β → Hp → Prop) → Prop := fun x y H Q =>
  ∃ ρ S d e, Reps K cA ρ H S ∧ RepV K ρ H d x ∧ RepV K ρ H e y ∧ After K cA W ρ H rep (f d e S) Q
def t1 (K : PySem.W.Frag) (cA : Nat → Addr) (W : XK) {β : Type} {α : Type} (rep : Rel α β) (f : D → Store → R α) : V → Hp → (β → Hp → Prop) → Prop := fun x H Q =>
  ∃ ρ S d, Reps K cA ρ H S ∧ RepV K ρ H d x ∧ After K cA W ρ H rep (f d S) Q
def tN (K : PySem.W.Frag) (cA : Nat → Addr) (W : XK) {β : Type} {α : Type} (rep : Rel α β) (f : List D → Store → R α) : List V → Hp → (β → Hp → Prop) → Prop := fun xs H Q =>
  ∃ ρ S ds, Reps K cA ρ H S ∧ RepVs K ρ H ds xs ∧ After K cA W ρ H rep (f ds S) Q

/-! ### weaker readings -/
theorem _root_.L2.PE.imp {X : Cx} {e : Expr} {t t' : TE} (h : PE X e t) (i : ∀ σ H Q, t' σ H Q → t σ H Q) : PE X e t' := ⟨fun pins s σ H Q I q => h.run pins s σ H Q I (i σ H Q q)⟩
theorem _root_.L2.PT.imp {X : Cx} {e : Expr} {t t' : TT} (h : PT X e t) (i : ∀ σ H Q, t' σ H Q → t σ H Q) : PT X e t' := ⟨fun pins s σ H Q I q => h.run pins s σ H Q I (i σ H Q q)⟩
theorem _root_.L2.PW.imp {X : Cx} {e : Expr} {t t' : TT} (h : PW X e t) (i : ∀ σ H Q, t' σ H Q → t σ H Q) : PW X e t' := ⟨fun wh pins s σ H Q I q => h.run wh pins s σ H Q I (i σ H Q q)⟩
theorem _root_.L2.PA.imp {X : Cx} {es : List Expr} {t t' : TA} (h : PA X es t) (i : ∀ σ H Q, t' σ H Q → t σ H Q) : PA X es t' := ⟨fun pos pins s σ H Q I q => h.run pos pins s σ H Q I (i σ H Q q)⟩
theorem _root_.L2.PS.imp {X : Cx} {st : Stmt} {t t' : TS} (h : PS X st t) (i : ∀ E σ H, t' E σ H → t E σ H) : PS X st t' := ⟨fun pins s σ H E I q => h.run pins s σ H E I (i E σ H q)⟩
theorem _root_.L2.PSs.imp {X : Cx} {st : List Stmt} {t t' : TS} (h : PSs X st t) (i : ∀ E σ H, t' E σ H → t E σ H) : PSs X st t' := ⟨fun pins s σ H E I q => h.run pins s σ H E I (i E σ H q)⟩
theorem OpR.imp {X : Cx} {f : Value → Value → Sem Value} {r r' : R2} (h : OpR X f r) (i : ∀ x y H Q, r' x y H Q → r x y H Q) : OpR X f r' := fun pins s σ H x y v u Q I rx ry q => h pins s σ H x y v u Q I rx ry (i _ _ _ _ q)
theorem CallR.imp {X : Cx} {f : Value} {r r' : List V → Hp → VK → Prop} (h : CallR X f r) (i : ∀ xs H Q, r' xs H Q → r xs H Q) : CallR X f r' := fun pins s σ H xs us Q I rx q => h pins s σ H xs us Q I rx (i _ _ _ q)
end ML

set_option Elab.async false
set_option linter.all false
set_option maxRecDepth 100000
set_option autoImplicit false
/-! ML2: what is done with values, and its rules. -/
namespace ML
open PySem PySem.Spec L2

/-! ### lists of data -/
section
variable {K : PySem.W.Frag} {ρ : List Addr} {H : Hp}
theorem RepVs.length : ∀ {ds : List D} {vs : List V}, RepVs K ρ H ds vs → vs.length = ds.length
  | [], vs, h => by unfold RepVs at h; rw [h]; rfl
  | x :: xs, vs, h => by
    unfold RepVs at h
    obtain ⟨v, r, e, _, h2⟩ := h
    rw [e, List.length_cons, List.length_cons, RepVs.length h2]
theorem RepVs.nil : RepVs K ρ H [] [] := by unfold RepVs; rfl
theorem RepVs.cons {d : D} {v : V} {ds : List D} {vs : List V} (h : RepV K ρ H d v) (h2 : RepVs K ρ H ds vs) : RepVs K ρ H (d :: ds) (v :: vs) := by unfold RepVs; exact ⟨v, vs, rfl, h, h2⟩
theorem RepVs.append : ∀ {ds es : List D} {vs ws : List V}, RepVs K ρ H ds vs → RepVs K ρ H es ws → RepVs K ρ H (ds ++ es) (vs ++ ws)
  | [], _, vs, ws, h, h2 => by unfold RepVs at h; rw [h]; exact h2
  | x :: xs, _, vs, ws, h, h2 => by
    unfold RepVs at h
    obtain ⟨v, r, e, h1, hr⟩ := h
    rw [e]
    exact RepVs.cons h1 (RepVs.append hr h2)
theorem RepVs.get : ∀ {ds : List D} {vs : List V}, RepVs K ρ H ds vs → ∀ (i : Nat) (d : D), ds[i]? = some d → ∃ v, vs[i]? = some v ∧ RepV K ρ H d v
  | [], _, _, i, d, e => by simp at e
  | x :: xs, vs, h, i, d, e => by
    unfold RepVs at h
    obtain ⟨v, r, ev, h1, h2⟩ := h
    rw [ev]
    cases i with
    | zero => simp at e; subst e; exact ⟨v, rfl, h1⟩
    | succ i => simpa using RepVs.get h2 i d (by simpa using e)
theorem RepVs.get' : ∀ {ds : List D} {vs : List V}, RepVs K ρ H ds vs → ∀ (i : Nat) (v : V), vs[i]? = some v → ∃ d, ds[i]? = some d ∧ RepV K ρ H d v
  | [], vs, h, i, v, e => by unfold RepVs at h; rw [h] at e; simp at e
  | x :: xs, vs, h, i, v, e => by
    unfold RepVs at h
    obtain ⟨w, r, ev, h1, h2⟩ := h
    rw [ev] at e
    cases i with
    | zero => simp at e; subst e; exact ⟨x, rfl, h1⟩
    | succ i => simpa using RepVs.get' h2 i v (by simpa using e)
theorem RepVs.take : ∀ {ds : List D} {vs : List V} (n : Nat), RepVs K ρ H ds vs → RepVs K ρ H (ds.take n) (vs.take n)
  | _, _, 0, _ => by rw [List.take_zero, List.take_zero]; exact .nil
  | [], vs, n + 1, h => by unfold RepVs at h; rw [h]; exact .nil
  | x :: xs, vs, n + 1, h => by
    unfold RepVs at h
    obtain ⟨v, r, e, h1, h2⟩ := h
    rw [e, List.take_succ_cons, List.take_succ_cons]
    exact .cons h1 (RepVs.take n h2)
theorem RepVs.drop : ∀ {ds : List D} {vs : List V} (n : Nat), RepVs K ρ H ds vs → RepVs K ρ H (ds.drop n) (vs.drop n)
  | _, _, 0, h => h
  | [], vs, n + 1, h => by unfold RepVs at h; rw [h]; exact .nil
  | x :: xs, vs, n + 1, h => by
    unfold RepVs at h
    obtain ⟨v, r, e, h1, h2⟩ := h
    rw [e, List.drop_succ_cons, List.drop_succ_cons]
    exact RepVs.drop n h2
theorem RepVs.set {d : D} {v : V} (hv : RepV K ρ H d v) : ∀ {ds : List D} {vs : List V} (n : Nat), RepVs K ρ H ds vs → RepVs K ρ H (ds.set n d) (vs.set n v)
  | [], vs, _, h => by unfold RepVs at h; rw [h]; exact .nil
  | x :: xs, vs, n, h => by
    unfold RepVs at h
    obtain ⟨w, r, e, h1, h2⟩ := h
    rw [e]
    cases n with
    | zero => exact .cons hv h2
    | succ n => exact .cons h1 (RepVs.set hv n h2)
theorem RepVs.ints : ∀ {ns : List Int} {vs : List V}, RepVs K ρ H (ns.map D.int) vs → vs = ns.map V.int
  | [], vs, h => by unfold RepVs at h; exact h
  | n :: ns, vs, h => by
    rw [List.map_cons] at h
    unfold RepVs at h
    obtain ⟨w, r, e, h1, h2⟩ := h
    unfold RepV at h1
    rw [e, h1, List.map_cons, RepVs.ints h2]
theorem RepVs.of_ints : ∀ {ns : List Int}, RepVs K ρ H (ns.map D.int) (ns.map V.int)
  | [] => by exact .nil
  | n :: ns => by
    rw [List.map_cons, List.map_cons]
    exact .cons (by unfold RepV; rfl) RepVs.of_ints
end

/-! ### cells -/
def lstAt (S : Store) (n : Nat) : Option (List D) := match S[n]? with
  | some (.lst xs) => some xs
  | _ => none
def dctAt (S : Store) (n : Nat) : Option (List (Key × D)) := match S[n]? with
  | some (.dct kvs) => some kvs
  | _ => none
def insAt (S : Store) (n : Nat) : Option (Nat × List (Str × D)) := match S[n]? with
  | some (.ins c fs) => some (c, fs)
  | _ => none
theorem lstAt_of {S : Store} {n : Nat} {xs : List D} (h : S[n]? = some (.lst xs)) : lstAt S n = some xs := by unfold lstAt; rw [h]
theorem dctAt_of {S : Store} {n : Nat} {xs : List (Key × D)} (h : S[n]? = some (.dct xs)) : dctAt S n = some xs := by unfold dctAt; rw [h]
theorem insAt_of {S : Store} {n c : Nat} {fs : List (Str × D)} (h : S[n]? = some (.ins c fs)) : insAt S n = some (c, fs) := by unfold insAt; rw [h]
theorem lstAt_some {S : Store} {n : Nat} {xs : List D} (h : lstAt S n = some xs) : S[n]? = some (.lst xs) := by
  unfold lstAt at h
  split at h
  · rename_i ys e; cases h; exact e
  · cases h
theorem dctAt_some {S : Store} {n : Nat} {xs : List (Key × D)} (h : dctAt S n = some xs) : S[n]? = some (.dct xs) := by
  unfold dctAt at h
  split at h
  · rename_i ys e; cases h; exact e
  · cases h
theorem insAt_some {S : Store} {n c : Nat} {fs : List (Str × D)} (h : insAt S n = some (c, fs)) : S[n]? = some (.ins c fs) := by
  unfold insAt at h
  split at h
  · rename_i c' fs' e; cases h; exact e
  · cases h
/-- a dict that is read, locked or not -/
def kvAt (S : Store) (n : Nat) : Option (List (Key × D)) := match S[n]? with
  | some (.dct kvs) => some kvs
  | some (.dlk kvs) => some kvs
  | _ => none
theorem kvAt_of {S : Store} {n : Nat} {xs : List (Key × D)} (h : S[n]? = some (.dct xs)) : kvAt S n = some xs := by unfold kvAt; rw [h]
theorem kvAt_some {S : Store} {n : Nat} {xs : List (Key × D)} (h : kvAt S n = some xs) : S[n]? = some (.dct xs) ∨ S[n]? = some (.dlk xs) := by
  unfold kvAt at h
  split at h
  · rename_i ys e; cases h; exact .inl e
  · rename_i ys e; cases h; exact .inr e
  · cases h
/-- the items of what is a list -/
def lstOf (S : Store) : D → Option (List D)
  | .lis xs => some xs
  | .ref n => lstAt S n
  | _ => none
/-- .. a list or a tuple -/
def seqOf (S : Store) : D → Option (List D)
  | .tup xs => some xs
  | .lis xs => some xs
  | .ref n => lstAt S n
  | _ => none
def newC (c : Cell) (S : Store) : R D := .ok (.ref S.length) (S ++ [c])
section
variable {K : PySem.W.Frag} {cA : Nat → Addr} {ρ : List Addr} {H : Hp} {S : Store}
/-- the cell at a reference -/
theorem ref_rep (hS : Reps K cA ρ H S) {n : Nat} {v : V} {c : Cell} (hv : RepV K ρ H (.ref n) v) (h : S[n]? = some c) : ∃ a, v = .ref a ∧ ρ[n]? = some a ∧ RepC K cA ρ H c a := by
  unfold RepV at hv
  obtain ⟨a, ha, ev⟩ := hv
  exact ⟨a, ev, ha, hS.at_ n c a h ha⟩
theorem rlst_rep (hS : Reps K cA ρ H S) {n : Nat} {v : V} {xs : List D} (hv : RepV K ρ H (.ref n) v) (h : lstAt S n = some xs) : ∃ a vs, v = .ref a ∧ ρ[n]? = some a ∧ H a = some (.lst vs) ∧ RepVs K ρ H xs vs := by
  obtain ⟨a, e, ha, vs, h1, h2⟩ := ref_rep hS hv (lstAt_some h)
  exact ⟨a, vs, e, ha, h1, h2⟩
theorem rdct_rep (hS : Reps K cA ρ H S) {n : Nat} {v : V} {xs : List (Key × D)} (hv : RepV K ρ H (.ref n) v) (h : dctAt S n = some xs) : ∃ a vs, v = .ref a ∧ ρ[n]? = some a ∧ H a = some (.dK vs) ∧ RepP K ρ H xs vs := by
  obtain ⟨a, e, ha, vs, h1, h2⟩ := ref_rep hS hv (dctAt_some h)
  exact ⟨a, vs, e, ha, h1, h2⟩
theorem rkv_rep (hS : Reps K cA ρ H S) {n : Nat} {v : V} {xs : List (Key × D)} (hv : RepV K ρ H (.ref n) v) (h : kvAt S n = some xs) : ∃ a vs, v = .ref a ∧ ρ[n]? = some a ∧ Rd H a (.dK vs) ∧ RepP K ρ H xs vs := by
  rcases kvAt_some h with h | h
  · obtain ⟨a, e, ha, vs, h1, h2⟩ := ref_rep hS hv h
    exact ⟨a, vs, e, ha, .inl h1, h2⟩
  · obtain ⟨a, e, ha, o, vs, h1, h2⟩ := ref_rep hS hv h
    exact ⟨a, vs, e, ha, .inr ⟨o, h1⟩, h2⟩
theorem rins_rep (hS : Reps K cA ρ H S) {n c : Nat} {v : V} {fs : List (Str × D)} (hv : RepV K ρ H (.ref n) v) (h : insAt S n = some (c, fs)) : ∃ a dx vs, v = .ref a ∧ ρ[n]? = some a ∧ H a = some (.ins (cA c) dx vs) ∧ RepP K ρ H fs vs := by
  obtain ⟨a, e, ha, dx, vs, h1, h2⟩ := ref_rep hS hv (insAt_some h)
  exact ⟨a, dx, vs, e, ha, h1, h2⟩
theorem lst_rep (hS : Reps K cA ρ H S) {d : D} {v : V} {xs : List D} (hv : RepV K ρ H d v) (h : lstOf S d = some xs) : ∃ a vs, v = .ref a ∧ SqL K H a vs ∧ RepVs K ρ H xs vs := by
  cases d with
  | lis ys =>
    have e : ys = xs := Option.some.inj h
    subst e
    unfold RepV at hv
    obtain ⟨a, vs, ev, hf, hr⟩ := hv
    exact ⟨a, vs, ev, hf.sq, hr⟩
  | ref n =>
    obtain ⟨a, vs, e, _, h1, h2⟩ := rlst_rep hS hv h
    exact ⟨a, vs, e, SqL.of h1, h2⟩
  | _ => cases h
theorem seq_rep (hS : Reps K cA ρ H S) {d : D} {v : V} {xs : List D} (hv : RepV K ρ H d v) (h : seqOf S d = some xs) : ∃ a vs, v = .ref a ∧ (SqL K H a vs ∨ SqT K H a vs) ∧ RepVs K ρ H xs vs := by
  cases d with
  | tup ys =>
    have e : ys = xs := Option.some.inj h
    subst e
    unfold RepV at hv
    obtain ⟨a, vs, ev, hf, hr⟩ := hv
    exact ⟨a, vs, ev, .inr hf, hr⟩
  | lis ys => obtain ⟨a, vs, ev, h1, h2⟩ := lst_rep hS hv h; exact ⟨a, vs, ev, .inl h1, h2⟩
  | ref n => obtain ⟨a, vs, ev, h1, h2⟩ := lst_rep hS hv h; exact ⟨a, vs, ev, .inl h1, h2⟩
  | _ => cases h
theorem Reps.free (hS : Reps K cA ρ H S) {p : Addr} (hp : H p = none) : p ∉ ρ := fun hm => by
  obtain ⟨o, ho, _⟩ := hS.mem hm
  rw [hp] at ho; cases ho
/-- a new cell -/
theorem After.new {W : XK} {c : Cell} {p : Addr} {o : HO} {Q : V → Hp → Prop} (h : After K cA W ρ H (rV K) (newC c S) Q) (hS : Reps K cA ρ H S) (hp : H p = none) (hc : RepC K cA ρ (upd H p o) c p) : Q (.ref p) (upd H p o) := by
  refine h (ρ ++ [p]) _ _ (Ext.alloc hp) ((hS.new hp).push (hS.free hp) hc) ?_
  show RepV K (ρ ++ [p]) _ (.ref S.length) (.ref p)
  unfold RepV
  exact ⟨p, by rw [← hS.len, List.getElem?_append_right (Nat.le_refl _)]; simp, rfl⟩
/-- a new tuple -/
theorem After.tup {W : XK} {xs : List D} {vs : List V} {p : Addr} {Q : V → Hp → Prop} (h : After K cA W ρ H (rV K) (.ok (.tup xs) S) Q) (hS : Reps K cA ρ H S) (hp : H p = none) (hr : RepVs K ρ H xs vs) : Q (.ref p) (upd H p (.tup vs)) := by
  refine h ρ _ _ (Ext.new hp) (hS.new hp) ?_
  show RepV K ρ _ (.tup xs) (.ref p)
  unfold RepV
  exact ⟨p, vs, rfl, SqT.of upd_same, hr.ext (Ext.new hp)⟩
/-- the end where nothing has changed -/
theorem After.same {α β : Type} {W : XK} {rep : Rel α β} {a : α} {b : β} {Q : β → Hp → Prop} (h : After K cA W ρ H rep (.ok a S) Q) (hS : Reps K cA ρ H S) (hr : rep H ρ H a b) : Q b H := h ρ H b (Ext.refl ρ H) hS hr
end

/-! ### numbers, texts -/
def mulOk (i j : Int) : Bool := decide (-(2 ^ 64) < i) && decide (i < 2 ^ 64) || decide (-(2 ^ 64) < j) && decide (j < 2 ^ 64)
def addD : D → D → Store → R D
  | .int i, .int j, S => .ok (.int (i + j)) S
  | .str x, .str y, S => if x.length + y.length ≤ sizeLine then .ok (.str (x ++ y)) S else .bad
  | .tup xs, .tup ys, S => if xs.length + ys.length ≤ sizeLine then .ok (.tup (xs ++ ys)) S else .bad
  | .ref n, .ref m, S => match lstAt S n, lstAt S m with
    | some xs, some ys => if xs.length + ys.length ≤ sizeLine then newC (.lst (xs ++ ys)) S else .bad
    | _, _ => .bad
  | _, _, _ => .bad
def subD : D → D → Store → R D
  | .int i, .int j, S => .ok (.int (i - j)) S
  | _, _, _ => .bad
/-- a text n times -/
def repS (x : Str) (n : Nat) : Str := ⟨(List.replicate n x.cps).foldl (· ++ ·) #[]⟩
def mulD : D → D → Store → R D
  | .int i, .int j, S => if mulOk i j then .ok (.int (i * j)) S else .bad
  | .str x, .int n, S => if n ≤ 0 ∧ -(2 ^ 63) ≤ n then .ok (.str Str.empty) S else if n = 1 then .ok (.str x) S else if 2 ≤ n ∧ 0 < x.length ∧ n < 2 ^ 32 ∧ x.length * n.toNat ≤ 16777216 then .ok (.str (repS x n.toNat)) S else .bad
  | _, _, _ => .bad
def fdivD : D → D → Store → R D
  | .int i, .int j, S => if 0 < j ∧ j < 1073741824 then .ok (.int (i / j)) S else .bad
  | _, _, _ => .bad
def modD : D → D → Store → R D
  | .int i, .int j, S => if 0 < j then .ok (.int (i % j)) S else .bad
  | _, _, _ => .bad
def powD : D → D → Store → R D
  | .int i, .int j, S => if 0 ≤ j ∧ j ≤ 1000000 ∧ i.natAbs < 2 ^ 64 then .ok (.int (i ^ j.toNat)) S else .bad
  | _, _, _ => .bad
def negD : D → Store → R D
  | .int i, S => .ok (.int (-i)) S
  | _, _ => .bad
def ltD : D → D → Store → R Bool
  | .int i, .int j, S => .ok (decide (i < j)) S
  | .str x, .str y, S => .ok (decide (x.cps.toList < y.cps.toList)) S
  | _, _, _ => .bad
def leD : D → D → Store → R Bool
  | .int i, .int j, S => .ok (decide (i ≤ j)) S
  | .str x, .str y, S => .ok (!decide (y.cps.toList < x.cps.toList)) S
  | _, _, _ => .bad
def gtD : D → D → Store → R Bool
  | .int i, .int j, S => .ok (decide (j < i)) S
  | _, _, _ => .bad
def geD : D → D → Store → R Bool
  | .int i, .int j, S => .ok (decide (j ≤ i)) S
  | _, _, _ => .bad
section
variable {X : Cx} {cA : Nat → Addr} {W : XK}
theorem op_addM : OpR X (binaryOp .Add) (t2 X.K cA W (rV X.K) addD) := by
  refine OpR.imp ((op_add (X := X)).or ((op_add_str (X := X)).or ((op_catA (X := X)).or (op_cat (X := X))))) fun x y H Q h => ?_
  obtain ⟨ρ, S, d, e, hS, hd, he, h⟩ := h
  unfold addD at h
  split at h
  · unfold RepV at hd he
    exact .inl ⟨_, _, hd, he, h.same hS (by unfold rV RepV; rfl)⟩
  · split at h
    · rename_i hl
      unfold RepV at hd he
      exact .inr (.inl ⟨_, _, hd, he, hl, h.same hS (by unfold rV RepV; rfl)⟩)
    · exact h.elim
  · split at h
    · rename_i xs ys hl
      have hd' := hd
      have he' := he
      unfold RepV at hd he
      obtain ⟨a, vs, ex, h1, r1⟩ := hd
      obtain ⟨b, ws, ey, h2, r2⟩ := he
      have nl1 : vs = [] → xs = [] := fun z => List.eq_nil_of_length_eq_zero (by rw [← r1.length, z]; rfl)
      have nl2 : ws = [] → ys = [] := fun z => List.eq_nil_of_length_eq_zero (by rw [← r2.length, z]; rfl)
      refine .inr (.inr (.inl ⟨a, b, vs, ws, ex, ey, h1, h2, by rw [r1.length, r2.length]; exact hl, fun z => ?_, fun _ z => ?_, fun _ _ p hp => h.tup hS hp (r1.append r2)⟩))
      · rw [nl1 z, List.nil_append] at h
        rw [ey] at he'
        exact h.same hS he'
      · rw [nl2 z, List.append_nil] at h
        rw [ex] at hd'
        exact h.same hS hd'
    · exact h.elim
  · split at h
    · rename_i xs ys e1 e2
      split at h
      · rename_i hl
        obtain ⟨a, vs, ex, ha, h1, r1⟩ := rlst_rep hS hd e1
        obtain ⟨b, ws, ey, hb, h2, r2⟩ := rlst_rep hS he e2
        exact .inr (.inr (.inr ⟨a, b, vs, ws, ex, ey, h1, h2, by rw [r1.length, r2.length]; exact hl, fun p hp => h.new hS hp ⟨_, upd_same, (r1.append r2).ext (Ext.new hp)⟩⟩))
      · exact h.elim
    · exact h.elim
  · exact h.elim
theorem op_subM : OpR X (binaryOp .Sub) (t2 X.K cA W (rV X.K) subD) := by
  refine OpR.imp (op_sub (X := X)) fun x y H Q h => ?_
  obtain ⟨ρ, S, d, e, hS, hd, he, h⟩ := h
  unfold subD at h
  split at h
  · unfold RepV at hd he
    exact ⟨_, _, hd, he, h.same hS (by unfold rV RepV; rfl)⟩
  · exact h.elim
theorem mulOk_of {i j : Int} (h : mulOk i j = true) : CMul i j := by
  unfold mulOk at h
  simp only [Bool.or_eq_true, Bool.and_eq_true, decide_eq_true_eq] at h
  exact h
theorem rep_list (z : Str) : ∀ (n : Nat) (acc : Array Nat), ((List.replicate n z.cps).foldl (· ++ ·) acc).toList = acc.toList ++ (List.replicate n z.cps.toList).flatten
  | 0, acc => by simp
  | n + 1, acc => by
    rw [List.replicate_succ, List.foldl_cons, rep_list z n, List.replicate_succ, List.flatten_cons, Array.toList_append, List.append_assoc]
theorem rep_cs (z : Str) (n : Nat) : (repS z n).cps.toList = (List.replicate n z.cps.toList).flatten := by
  exact (rep_list z n #[]).trans (List.nil_append _)
theorem rep_len (z : Str) (n : Nat) : (repS z n).length = z.length * n := by
  show (repS z n).cps.size = z.cps.size * n
  rw [← Array.length_toList, rep_cs]
  induction n with
  | zero => rfl
  | succ n ih =>
    rw [List.replicate_succ, List.flatten_cons, List.length_append, ih, Array.length_toList, Nat.mul_succ, Nat.add_comm]
theorem op_mulStr : OpR X (binaryOp .Mult) (fun x y H Q => ∃ (z : Str) (n : Int), x = .str z ∧ y = .int n ∧
    ((n ≤ 0 ∧ -(2 ^ 63) ≤ n ∧ Q (.str Str.empty) H) ∨ (n = 1 ∧ Q (.str z) H) ∨ (2 ≤ n ∧ 0 < z.length ∧ n < 2 ^ 32 ∧ z.length * n.toNat ≤ 16777216 ∧ Q (.str (repS z n.toNat)) H))) := by
  intro pins s σ H x y v u Q I rx ry h
  obtain ⟨z, n, rfl, rfl, h⟩ := h
  obtain ⟨t, rfl⟩ := rx
  obtain ⟨t2, rfl⟩ := ry
  have fin : ∀ (r : Str) (tk : Tok), Q (.str r) H → EP X pins σ Q (.str r tk) { s with toks := s.toks + 1 } := fun r tk q => ⟨.str r, H, I.tok _, ⟨_, rfl⟩, q⟩
  rcases h with ⟨h0, h1, q⟩ | ⟨rfl, q⟩ | ⟨h2, h3, h4, h5, q⟩
  · exact PySem.P.mul_str_none (by omega) (by omega) (fin _ _ q)
  · refine PySem.P.mul_str (by decide) (fun _ z => nomatch z) (fun _ z => nomatch z) ?_
    rw [if_neg (by omega), if_pos (by simp)]
    exact ⟨.str z, H, I, ⟨_, rfl⟩, q⟩
  · have c1 : (decide (n < -(2 ^ 63 : Int)) || decide (n ≥ 2 ^ 63)) = false := by
      rw [decide_eq_false (by omega), decide_eq_false (by omega)]; rfl
    have hn : n = ((n.toNat : Nat) : Int) := by omega
    refine PySem.P.mul_str c1 (fun _ _ hz => ?_) (fun _ _ => ?_) ?_
    · have e : (z.length : Int) ≤ (2 ^ 63 - 1) / n := by
        refine (Int.le_ediv_iff_mul_le (by omega)).mpr ?_
        have : ((z.length * n.toNat : Nat) : Int) ≤ ((16777216 : Nat) : Int) := Int.ofNat_le.mpr h5
        rw [Int.natCast_mul, ← hn] at this
        have q : (9223372036854775807 : Int) = 2 ^ 63 - 1 := by decide
        omega
      omega
    · unfold PySem.Builtin.Str.tooLong
      rw [decide_eq_false]
      show ¬ sizeLine < _
      rw [sizeLine_eq]
      omega
    · rw [if_neg (by omega), if_neg]
      · refine ⟨?_, fin _ _ q⟩
        rw [sizeLine_eq]
        exact Nat.le_trans (Nat.le_of_eq (rep_len z n.toNat)) h5
      · simp
        omega
theorem op_mulM : OpR X (binaryOp .Mult) (t2 X.K cA W (rV X.K) mulD) := by
  refine OpR.imp ((op_mul (X := X)).or (op_mulStr (X := X))) fun x y H Q h => ?_
  obtain ⟨ρ, S, d, e, hS, hd, he, h⟩ := h
  unfold mulD at h
  split at h
  · split at h
    · rename_i hm
      unfold RepV at hd he
      exact .inl ⟨_, _, hd, he, mulOk_of hm, h.same hS (by unfold rV RepV; rfl)⟩
    · exact h.elim
  · rename_i z n _
    unfold RepV at hd he
    refine .inr ⟨_, _, hd, he, ?_⟩
    split at h
    · rename_i c
      exact .inl ⟨c.1, c.2, h.same hS (by unfold rV RepV; rfl)⟩
    · split at h
      · rename_i c
        exact .inr (.inl ⟨c, h.same hS (by unfold rV RepV; rfl)⟩)
      · split at h
        · rename_i c1 c2 c3
          exact .inr (.inr ⟨c3.1, c3.2.1, c3.2.2.1, c3.2.2.2, h.same hS (by unfold rV RepV; rfl)⟩)
        · exact h.elim
  · exact h.elim
theorem op_fdivM : OpR X (binaryOp .FloorDiv) (t2 X.K cA W (rV X.K) fdivD) := by
  refine OpR.imp (op_fdiv (X := X)) fun x y H Q h => ?_
  obtain ⟨ρ, S, d, e, hS, hd, he, h⟩ := h
  unfold fdivD at h
  split at h
  · split at h
    · rename_i hm
      unfold RepV at hd he
      exact ⟨_, _, hd, he, hm, h.same hS (by unfold rV RepV; rfl)⟩
    · exact h.elim
  · exact h.elim
theorem op_modM : OpR X (binaryOp .Mod) (t2 X.K cA W (rV X.K) modD) := by
  refine OpR.imp (op_mod (X := X)) fun x y H Q h => ?_
  obtain ⟨ρ, S, d, e, hS, hd, he, h⟩ := h
  unfold modD at h
  split at h
  · split at h
    · rename_i hm
      unfold RepV at hd he
      exact ⟨_, _, hd, he, hm, h.same hS (by unfold rV RepV; rfl)⟩
    · exact h.elim
  · exact h.elim
theorem op_powM : OpR X (binaryOp .Pow) (t2 X.K cA W (rV X.K) powD) := by
  refine OpR.imp (op_pow (X := X)) fun x y H Q h => ?_
  obtain ⟨ρ, S, d, e, hS, hd, he, h⟩ := h
  unfold powD at h
  split at h
  · split at h
    · rename_i hm
      unfold RepV at hd he
      exact ⟨_, _, hd, he, hm, h.same hS (by unfold rV RepV; rfl)⟩
    · exact h.elim
  · exact h.elim
theorem un_negM : UnR X (unaryOp .USub) (t1 X.K cA W (rV X.K) negD) := by
  refine fun pins s σ H x v Q I rx h => un_neg pins s σ H x v Q I rx ?_
  obtain ⟨ρ, S, d, hS, hd, h⟩ := h
  unfold negD at h
  split at h
  · unfold RepV at hd
    exact ⟨_, hd, h.same hS (by unfold rV RepV; rfl)⟩
  · exact h.elim
/-- a comparison's reading -/
abbrev tC2 (K : PySem.W.Frag) (cA : Nat → Addr) (W : XK) (f : D → D → Store → R Bool) : R2 := fun x y H Q => t2 K cA W rId f x y H fun b H' => Q (.bl b) H'
theorem op_ltM : OpR X (compareOp .Lt) (tC2 X.K cA W ltD) := by
  refine OpR.imp ((op_lt (X := X)).or (op_lt_str (X := X))) fun x y H Q h => ?_
  obtain ⟨ρ, S, d, e, hS, hd, he, h⟩ := h
  unfold ltD at h
  split at h
  · unfold RepV at hd he
    exact .inl ⟨_, _, hd, he, h.same hS rfl⟩
  · unfold RepV at hd he
    exact .inr ⟨_, _, hd, he, h.same hS rfl⟩
  · exact h.elim
theorem op_leM : OpR X (compareOp .LtE) (tC2 X.K cA W leD) := by
  refine OpR.imp ((op_le (X := X)).or (op_le_str (X := X))) fun x y H Q h => ?_
  obtain ⟨ρ, S, d, e, hS, hd, he, h⟩ := h
  unfold leD at h
  split at h
  · unfold RepV at hd he
    exact .inl ⟨_, _, hd, he, h.same hS rfl⟩
  · unfold RepV at hd he
    exact .inr ⟨_, _, hd, he, h.same hS rfl⟩
  · exact h.elim
theorem op_gtM : OpR X (compareOp .Gt) (tC2 X.K cA W gtD) := by
  refine OpR.imp (op_gt (X := X)) fun x y H Q h => ?_
  obtain ⟨ρ, S, d, e, hS, hd, he, h⟩ := h
  unfold gtD at h
  split at h
  · unfold RepV at hd he
    exact ⟨_, _, hd, he, h.same hS rfl⟩
  · exact h.elim
theorem op_geM : OpR X (compareOp .GtE) (tC2 X.K cA W geD) := by
  refine OpR.imp (op_ge (X := X)) fun x y H Q h => ?_
  obtain ⟨ρ, S, d, e, hS, hd, he, h⟩ := h
  unfold geD at h
  split at h
  · unfold RepV at hd he
    exact ⟨_, _, hd, he, h.same hS rfl⟩
  · exact h.elim
end
end ML

set_option Elab.async false
set_option linter.all false
set_option maxRecDepth 100000
set_option autoImplicit false
/-! ML3: equality, membership, length, truth, kinds, items, slices. -/
namespace ML
open PySem PySem.Spec L2

/-! ### equality -/
def mapO {α β : Type} (f : α → Option β) : List α → Option (List β)
  | [] => some []
  | x :: xs => match f x, mapO f xs with
    | some y, some ys => some (y :: ys)
    | _, _ => none
def toPy (S : Store) : Nat → D → Option PyData
  | _, .non => some .none
  | _, .bl b => some (.bool b)
  | _, .int i => some (.int i)
  | _, .str x => some (.str x)
  | _, .exn _ => none
  | 0, _ => none
  | k + 1, .tup xs => (mapO (toPy S k) xs).map .tuple
  | k + 1, .lis xs => (mapO (toPy S k) xs).map .list
  | k + 1, .ref n => match lstAt S n with
    | some xs => (mapO (toPy S k) xs).map .list
    | none => none
def eqPy (S : Store) (d e : D) : Option Bool := match toPy S 64 d, toPy S 64 e with
  | some a, some b => if SeqAt.shaped a = true ∧ SeqAt.shaped b = true then some (PyData.eqv a b) else none
  | _, _ => none
def eqO (S : Store) : D → D → Option Bool
  | .str x, .str y => some (decide (x = y))
  | .str _, .non => some false
  | .str _, .int _ => some false
  | .str _, .bl _ => some false
  | .non, .str _ => some false
  | .int _, .str _ => some false
  | .bl _, .str _ => some false
  | d, e => eqPy S d e
def eqD (d e : D) (S : Store) : R Bool := match eqO S d e with
  | some b => .ok b S
  | none => .bad
def neD (d e : D) (S : Store) : R Bool := match eqO S d e with
  | some b => .ok (!b) S
  | none => .bad
section
variable {K : PySem.W.Frag} {cA : Nat → Addr} {ρ : List Addr} {H : Hp} {S : Store}
theorem toPy_rep (hS : Reps K cA ρ H S) : ∀ (k : Nat) (d : D) (v : V) (p : PyData), toPy S k d = some p → RepV K ρ H d v → Dp K H v p
  | k, .non, v, p, h, r => by unfold RepV at r; subst r; cases k <;> (cases h; exact .non)
  | k, .bl b, v, p, h, r => by unfold RepV at r; subst r; cases k <;> (cases h; exact .bl b)
  | k, .int i, v, p, h, r => by unfold RepV at r; subst r; cases k <;> (cases h; exact .int i)
  | k, .str x, v, p, h, r => by unfold RepV at r; subst r; cases k <;> (cases h; exact .str x)
  | 0, .tup xs, v, p, h, r => nomatch h
  | 0, .lis xs, v, p, h, r => nomatch h
  | 0, .ref n, v, p, h, r => nomatch h
  | _, .exn a, v, p, h, r => by
    unfold toPy at h
    cases h
  | k + 1, .tup xs, v, p, h, r => by
    unfold RepV at r
    obtain ⟨a, vs, rfl, hs, hr⟩ := r
    have h : (mapO (toPy S k) xs).map PyData.tuple = some p := h
    obtain ⟨ps, e, rfl⟩ := Option.map_eq_some_iff.mp h
    exact .tup hs (all k xs vs ps e hr)
  | k + 1, .lis xs, v, p, h, r => by
    unfold RepV at r
    obtain ⟨a, vs, rfl, hs, hr⟩ := r
    have h : (mapO (toPy S k) xs).map PyData.list = some p := h
    obtain ⟨ps, e, rfl⟩ := Option.map_eq_some_iff.mp h
    exact .lst hs.sq (all k xs vs ps e hr)
  | k + 1, .ref n, v, p, h, r => by
    unfold toPy at h
    cases e : lstAt S n with
    | none => rw [e] at h; cases h
    | some xs =>
      rw [e] at h
      obtain ⟨a, vs, rfl, _, hs, hr⟩ := rlst_rep hS r e
      obtain ⟨ps, e, rfl⟩ := Option.map_eq_some_iff.mp h
      exact .lst (SqL.of hs) (all k xs vs ps e hr)
where
  all (k : Nat) : ∀ (xs : List D) (vs : List V) (ps : List PyData), mapO (toPy S k) xs = some ps → RepVs K ρ H xs vs → DpAll K H vs ps
  | [], vs, ps, h, r => by unfold RepVs at r; subst r; cases h; exact .nil
  | x :: xs, vs, ps, h, r => by
    unfold RepVs at r
    obtain ⟨v, q, rfl, h1, h2⟩ := r
    unfold mapO at h
    split at h
    · rename_i y ys e1 e2
      cases h
      exact .cons (toPy_rep hS k x v y e1 h1) (all k xs q ys e2 h2)
    · cases h
end
section
variable {X : Cx} {cA : Nat → Addr} {W : XK}
theorem eqO_rep {K : PySem.W.Frag} {ρ : List Addr} {H : Hp} {S : Store} (hS : Reps K cA ρ H S) {d e : D} {x y : V} {b : Bool} (hd : RepV K ρ H d x) (he : RepV K ρ H e y) (h : eqO S d e = some b) :
    (scal x y = true ∧ b = decide (x = y)) ∨ ∃ p q, Dp K H x p ∧ Dp K H y q ∧ SeqAt.shaped p = true ∧ SeqAt.shaped q = true ∧ b = PyData.eqv p q := by
  unfold eqO at h
  split at h
  all_goals first
    | (unfold RepV at hd he; subst hd he; cases h; exact .inl ⟨rfl, by simp⟩)
    | skip
  unfold eqPy at h
  split at h
  · rename_i p q e1 e2
    split at h
    · rename_i hz
      cases h
      exact .inr ⟨p, q, toPy_rep hS _ _ _ _ e1 hd, toPy_rep hS _ _ _ _ e2 he, hz.1, hz.2, rfl⟩
    · cases h
  · cases h
theorem op_eqM (hu : X.A.units + 64 < cLine) : OpR X (compareOp .Eq) (tC2 X.K cA W eqD) := by
  refine OpR.imp ((op_eq (X := X)).or (op_eqD (X := X) hu)) fun x y H Q h => ?_
  obtain ⟨ρ, S, d, e, hS, hd, he, h⟩ := h
  unfold eqD at h
  split at h
  · rename_i b hb
    have q := h.same hS rfl
    rcases eqO_rep hS hd he hb with ⟨h1, h2⟩ | ⟨p, r, h1, h2, h3, h4, h5⟩
    · subst h2; exact .inl ⟨h1, q⟩
    · subst h5; exact .inr ⟨p, r, h1, h2, h3, h4, q⟩
  · exact h.elim
theorem op_neM (hu : X.A.units + 64 < cLine) : OpR X (compareOp .NotEq) (tC2 X.K cA W neD) := by
  refine OpR.imp ((op_ne (X := X)).or (op_neD (X := X) hu)) fun x y H Q h => ?_
  obtain ⟨ρ, S, d, e, hS, hd, he, h⟩ := h
  unfold neD at h
  split at h
  · rename_i b hb
    have q := h.same hS rfl
    rcases eqO_rep hS hd he hb with ⟨h1, h2⟩ | ⟨p, r, h1, h2, h3, h4, h5⟩
    · subst h2; exact .inl ⟨h1, q⟩
    · subst h5; exact .inr ⟨p, r, h1, h2, h3, h4, q⟩
  · exact h.elim
end

/-! ### is -/
def isD : D → D → Store → R Bool
  | .non, .non, S => .ok true S
  | _, .non, S => .ok false S
  | .bl a, .bl b, S => .ok (decide (a = b)) S
  | _, _, _ => .bad
def isNotD : D → D → Store → R Bool
  | .non, .non, S => .ok false S
  | _, .non, S => .ok true S
  | .bl a, .bl b, S => .ok (!decide (a = b)) S
  | _, _, _ => .bad
theorem rep_non {K : PySem.W.Frag} {ρ : List Addr} {H : Hp} {d : D} {v : V} (h : RepV K ρ H d v) : v = .non ↔ d = .non := by
  cases d with
  | non => unfold RepV at h; simp [h]
  | bl b => unfold RepV at h; simp [h]
  | int b => unfold RepV at h; simp [h]
  | str b => unfold RepV at h; simp [h]
  | tup b => unfold RepV at h; obtain ⟨a, vs, e, _⟩ := h; simp [e]
  | lis b => unfold RepV at h; obtain ⟨a, vs, e, _⟩ := h; simp [e]
  | ref b => unfold RepV at h; obtain ⟨a, _, e⟩ := h; simp [e]
  | exn b => unfold RepV at h; simp [h]
section
variable {X : Cx} {cA : Nat → Addr} {W : XK}
theorem op_isM : OpR X (compareOp .Is) (tC2 X.K cA W isD) := by
  refine OpR.imp ((op_isN (X := X)).or (op_is_bl (X := X))) fun x y H Q h => ?_
  obtain ⟨ρ, S, d, e, hS, hd, he, h⟩ := h
  unfold isD at h
  split at h
  · unfold RepV at hd he
    exact .inl ⟨he, by rw [hd]; exact h.same hS rfl⟩
  · rename_i hn
    have q := h.same hS rfl
    unfold RepV at he
    refine .inl ⟨he, ?_⟩
    have : ¬ x = .non := fun z => hn ((rep_non hd).mp z)
    rw [decide_eq_false this]
    exact q
  · unfold RepV at hd he
    exact .inr ⟨_, _, hd, he, h.same hS rfl⟩
  · exact h.elim
theorem op_isNotM : OpR X (compareOp .IsNot) (tC2 X.K cA W isNotD) := by
  refine OpR.imp ((op_notN (X := X)).or (op_isnot_bl (X := X))) fun x y H Q h => ?_
  obtain ⟨ρ, S, d, e, hS, hd, he, h⟩ := h
  unfold isNotD at h
  split at h
  · unfold RepV at hd he
    exact .inl ⟨he, by rw [hd]; exact h.same hS rfl⟩
  · rename_i hn
    have q := h.same hS rfl
    unfold RepV at he
    refine .inl ⟨he, ?_⟩
    have : ¬ x = .non := fun z => hn ((rep_non hd).mp z)
    rw [decide_eq_false this]
    exact q
  · unfold RepV at hd he
    exact .inr ⟨_, _, hd, he, h.same hS rfl⟩
  · exact h.elim
end

/-! ### in -/
def flatO : D → Option V
  | .non => some .non
  | .bl b => some (.bl b)
  | .int i => some (.int i)
  | .str x => some (.str x)
  | _ => none
def keyO : D → Option Key
  | .int i => some (.inl i)
  | .str x => some (.inr x)
  | _ => none
def dLook (kvs : List (Key × D)) (k : Key) : Option D := (kvs.find? fun kv => decide (kv.1 = k)).map (·.2)
def dPut (kvs : List (Key × D)) (k : Key) (v : D) : List (Key × D) :=
  if (kvs.any fun kv => decide (kv.1 = k)) = true then kvs.map (fun kv => if kv.1 = k then (kv.1, v) else kv) else kvs ++ [(k, v)]
def dDrop (kvs : List (Key × D)) (k : Key) : List (Key × D) := kvs.filter fun kv => decide (kv.1 ≠ k)
/-- one sign -/
def signO : D → Option Nat
  | .str x => match x.cps.toList with
    | [c] => some c
    | _ => none
  | _ => none
def inO (S : Store) (x y : D) : Option Bool := match y with
  | .str z => (signO x).map fun c => decide (c ∈ z.cps.toList)
  | _ => match seqOf S y with
    | some ys => match flatO x, mapO flatO ys with
      | some v, some vs => some (inV v vs)
      | _, _ => none
    | none => match y with
      | .ref n => match kvAt S n, keyO x with
        | some kvs, some k => some (dLook kvs k).isSome
        | _, _ => none
      | _ => none
def inD (x y : D) (S : Store) : R Bool := match inO S x y with
  | some b => .ok b S
  | none => .bad
def notInD (x y : D) (S : Store) : R Bool := match inO S x y with
  | some b => .ok (!b) S
  | none => .bad
section
variable {K : PySem.W.Frag} {cA : Nat → Addr} {ρ : List Addr} {H : Hp} {S : Store}
theorem flat_rep {d : D} {v w : V} (h : flatO d = some w) (r : RepV K ρ H d v) : v = w ∧ flatV w = true := by
  cases d with
  | non => unfold RepV at r; subst r; cases h; exact ⟨rfl, rfl⟩
  | bl b => unfold RepV at r; subst r; cases h; exact ⟨rfl, rfl⟩
  | int b => unfold RepV at r; subst r; cases h; exact ⟨rfl, rfl⟩
  | str b => unfold RepV at r; subst r; cases h; exact ⟨rfl, rfl⟩
  | _ => cases h
theorem flats_rep : ∀ {ds : List D} {vs ws : List V}, mapO flatO ds = some ws → RepVs K ρ H ds vs → vs = ws ∧ ws.all flatV = true
  | [], vs, ws, h, r => by unfold RepVs at r; subst r; cases h; exact ⟨rfl, rfl⟩
  | d :: ds, vs, ws, h, r => by
    unfold RepVs at r
    obtain ⟨v, q, rfl, h1, h2⟩ := r
    unfold mapO at h
    split at h
    · rename_i y ys e1 e2
      cases h
      obtain ⟨rfl, f1⟩ := flat_rep e1 h1
      obtain ⟨rfl, f2⟩ := flats_rep e2 h2
      exact ⟨rfl, by rw [List.all_cons, f1, f2]; rfl⟩
    · cases h
theorem key_rep {d : D} {v : V} {k : Key} (h : keyO d = some k) (r : RepV K ρ H d v) : v = kV k := by
  cases d with
  | int b => unfold RepV at r; subst r; cases h; rfl
  | str b => unfold RepV at r; subst r; cases h; rfl
  | _ => cases h
theorem sign_rep {d : D} {v : V} {c : Nat} (h : signO d = some c) (r : RepV K ρ H d v) : v = .str ⟨#[c]⟩ := by
  cases d with
  | str x =>
    unfold RepV at r
    unfold signO at h
    simp only at h
    split at h
    · rename_i c' e
      cases h
      rw [r]
      exact congrArg V.str (Str.ext' (Array.toList_inj.mp e))
    · cases h
  | _ => cases h
theorem look_rep : ∀ {kvs : List (Key × D)} {ps : List (Key × V)} (k : Key), RepP K ρ H kvs ps →
    match dLook kvs k with
    | some d => ∃ v, valV ps k = some v ∧ RepV K ρ H d v
    | none => valV ps k = none
  | [], ps, k, r => by unfold RepP at r; subst r; rfl
  | (j, x) :: kvs, ps, k, r => by
    unfold RepP at r
    obtain ⟨v, q, rfl, h1, h2⟩ := r
    by_cases e : j = k
    · have e1 : dLook ((j, x) :: kvs) k = some x := by simp [dLook, e]
      rw [e1]
      exact ⟨v, valV_pos e, h1⟩
    · have e1 : dLook ((j, x) :: kvs) k = dLook kvs k := by simp [dLook, List.find?_cons, e]
      rw [e1, valV_neg (p := (j, v)) e]
      exact look_rep k h2
theorem lookS_rep {kvs : List (Key × D)} {ps : List (Key × V)} (k : Key) (r : RepP K ρ H kvs ps) : (valV ps k).isSome = (dLook kvs k).isSome := by
  have h := look_rep k r
  split at h
  · rename_i d e; obtain ⟨v, h1, _⟩ := h; rw [h1, e]; rfl
  · rename_i e; rw [h, e]; rfl
theorem inO_rep (hS : Reps K cA ρ H S) {d e : D} {x y : V} {b : Bool} (hd : RepV K ρ H d x) (he : RepV K ρ H e y) (h : inO S d e = some b) :
    (∃ (c : Nat) (z : Str), x = .str ⟨#[c]⟩ ∧ y = .str z ∧ b = decide (c ∈ z.cps.toList)) ∨
    (∃ p xs, y = .ref p ∧ (SqL K H p xs ∨ SqT K H p xs) ∧ flatV x = true ∧ xs.all flatV = true ∧ b = inV x xs) ∨
    ∃ a o, y = .ref a ∧ DGet H a x o ∧ b = o.isSome := by
  unfold inO at h
  split at h
  · rename_i z
    unfold RepV at he
    cases es : signO d with
    | none => rw [es] at h; cases h
    | some c =>
      rw [es] at h
      cases h
      exact .inl ⟨c, z, sign_rep es hd, he, rfl⟩
  · split at h
    · rename_i ys ey
      obtain ⟨p, vs, rfl, hq, hr⟩ := seq_rep hS he ey
      split at h
      · rename_i v ws e1 e2
        cases h
        obtain ⟨rfl, f1⟩ := flat_rep e1 hd
        obtain ⟨rfl, f2⟩ := flats_rep e2 hr
        exact .inr (.inl ⟨p, vs, rfl, hq, f1, f2, rfl⟩)
      · cases h
    · split at h
      · split at h
        · rename_i kvs k e1 e2
          cases h
          obtain ⟨a, ps, rfl, ha, hp, hr⟩ := rkv_rep hS he e1
          have ek := key_rep e2 hd
          subst ek
          exact .inr (.inr ⟨a, _, rfl, (.inl ⟨ps, k, hp, rfl, rfl⟩ : DGet H a (kV k) (valV ps k)), (lookS_rep k hr).symm⟩)
        · cases h
      · cases h
end
section
variable {X : Cx} {cA : Nat → Addr} {W : XK}
theorem op_inDict (hu : X.A.units + 1 < cLine) : OpR X (compareOp .In) (fun x y H Q => ∃ a o, y = .ref a ∧ DGet H a x o ∧ Q (.bl o.isSome) H) := by
  intro pins s σ H x y v u Q I rx ry h
  obtain ⟨a, o, rfl, g, q⟩ := h
  obtain rfl : u = Value.ref a := ry
  exact d_in hu I g rx fun s3 I3 => ⟨.bl o.isSome, H, I3, rfl, q⟩
theorem op_notInDict (hu : X.A.units + 1 < cLine) : OpR X (compareOp .NotIn) (fun x y H Q => ∃ a o, y = .ref a ∧ DGet H a x o ∧ Q (.bl (!o.isSome)) H) := by
  intro pins s σ H x y v u Q I rx ry h
  obtain ⟨a, o, rfl, g, q⟩ := h
  obtain rfl : u = Value.ref a := ry
  exact d_notIn hu I g rx fun s3 I3 => ⟨.bl (!o.isSome), H, I3, rfl, q⟩
theorem op_inM (hu : X.A.units + 1 < cLine) : OpR X (compareOp .In) (tC2 X.K cA W inD) := by
  refine OpR.imp ((op_in_sign (X := X)).or ((op_in_seq (X := X)).or (op_inDict (X := X) hu))) fun x y H Q h => ?_
  obtain ⟨ρ, S, d, e, hS, hd, he, h⟩ := h
  unfold inD at h
  split at h
  · rename_i b hb
    have q := h.same hS rfl
    rcases inO_rep hS hd he hb with ⟨c, z, h1, h2, h3⟩ | ⟨p, xs, h1, h2, h3, h4, h5⟩ | ⟨a, o, h1, h2, h3⟩
    · subst h3; exact .inl ⟨c, z, h1, h2, q⟩
    · subst h5; exact .inr (.inl ⟨p, xs, h1, h2, h3, h4, q⟩)
    · subst h3; exact .inr (.inr ⟨a, o, h1, h2, q⟩)
  · exact h.elim
theorem op_notInM (hu : X.A.units + 1 < cLine) : OpR X (compareOp .NotIn) (tC2 X.K cA W notInD) := by
  refine OpR.imp ((op_notIn_sign (X := X)).or ((op_notIn_seq (X := X)).or (op_notInDict (X := X) hu))) fun x y H Q h => ?_
  obtain ⟨ρ, S, d, e, hS, hd, he, h⟩ := h
  unfold notInD at h
  split at h
  · rename_i b hb
    have q := h.same hS rfl
    rcases inO_rep hS hd he hb with ⟨c, z, h1, h2, h3⟩ | ⟨p, xs, h1, h2, h3, h4, h5⟩ | ⟨a, o, h1, h2, h3⟩
    · subst h3; exact .inl ⟨c, z, h1, h2, q⟩
    · subst h5; exact .inr (.inl ⟨p, xs, h1, h2, h3, h4, q⟩)
    · subst h3; exact .inr (.inr ⟨a, o, h1, h2, q⟩)
  · exact h.elim
end
end ML

set_option Elab.async false
set_option linter.all false
set_option maxRecDepth 100000
set_option autoImplicit false
/-! ML4: expressions. -/
namespace ML
open PySem PySem.Spec L2

/-! ### chaining -/
def Mono {α β : Type} (rep : Rel α β) : Prop := ∀ (H0 : Hp) (ρ : List Addr) (H : Hp) (ρ' : List Addr) (H' : Hp) (a : α) (b : β), Ext ρ H ρ' H' → rep H0 ρ H a b → rep H0 ρ' H' a b
theorem mo_V {K : PySem.W.Frag} : Mono (rV K) := fun _ _ _ _ _ _ _ e h => h.ext e
theorem mo_Vs {K : PySem.W.Frag} : Mono (rVs K) := fun _ _ _ _ _ _ _ e h => h.ext e
theorem mo_Id {α : Type} : Mono (rId (α := α)) := fun _ _ _ _ _ _ _ _ h => h
theorem mo_New {K : PySem.W.Frag} : Mono (rNew K) := fun H0 ρ H ρ' H' a b e h => by
  obtain ⟨p, vs, ev, h0, h1, h2, h3⟩ := h
  refine ⟨p, vs, ev, h0, fun hm => ?_, e.keep p _ h2 h1, h3.ext e⟩
  obtain ⟨r, er, nr⟩ := e.pre
  rw [er] at hm
  rcases List.mem_append.mp hm with z | z
  · exact h1 z
  · have := nr p z
    rw [h2] at this; cases this
section
variable {K : PySem.W.Frag} {cA : Nat → Addr} {W : XK} {α β γ δ ε ζ η θ : Type} {rep : Rel γ δ} {rep1 : Rel α β} {rep2 : Rel ε ζ} {rep3 : Rel η θ}
theorem bind1 (st : Stable rep) {m : Loc → Store → R α} {f : α → Store → R γ} {σ : L2.St} {H : Hp} {Q : δ → Hp → Prop}
    (h : tG K cA W rep (fun l S => (m l S).bind f) σ H Q) :
    tG K cA W rep1 m σ H fun x H1 => ∃ ρ S a, Reps K cA ρ H1 S ∧ rep1 H ρ H1 a x ∧ After K cA W ρ H1 rep (f a S) Q := by
  obtain ⟨ρ, S, l, hS, hl, h⟩ := h
  refine ⟨ρ, S, l, hS, hl, (After.bind (rep := rep1) st h).imp fun x H1 q => ?_⟩
  obtain ⟨ρ1, S1, a, _, h1, h2, h3⟩ := q
  exact ⟨ρ1, S1, a, h1, h2, h3⟩
theorem bind1L (st : Stable rep) {m : Loc → Store → R α} {f : Loc → α → Store → R γ} {σ : L2.St} {H : Hp} {Q : δ → Hp → Prop}
    (h : tG K cA W rep (fun l S => (m l S).bind (f l)) σ H Q) :
    tG K cA W rep1 m σ H fun x H1 => ∃ ρ S l a, Reps K cA ρ H1 S ∧ RepL K ρ H1 l σ ∧ rep1 H ρ H1 a x ∧ After K cA W ρ H1 rep (f l a S) Q := by
  obtain ⟨ρ, S, l, hS, hl, h⟩ := h
  refine ⟨ρ, S, l, hS, hl, (After.bind (rep := rep1) st h).imp fun x H1 q => ?_⟩
  obtain ⟨ρ1, S1, a, e, h1, h2, h3⟩ := q
  exact ⟨ρ1, S1, l, a, h1, hl.ext e, h2, h3⟩
theorem bind2 (st : Stable rep) (mo : Mono rep1) {m : Loc → Store → R α} {n : Loc → Store → R ε} {f : α → ε → Store → R γ} {σ : L2.St} {H : Hp} {Q : δ → Hp → Prop}
    (h : tG K cA W rep (fun l S => (m l S).bind fun a S1 => (n l S1).bind (f a)) σ H Q) :
    tG K cA W rep1 m σ H fun x H1 => tG K cA W rep2 n σ H1 fun y H2 => ∃ ρ S a b, Reps K cA ρ H2 S ∧ rep1 H ρ H2 a x ∧ rep2 H1 ρ H2 b y ∧ After K cA W ρ H2 rep (f a b S) Q := by
  obtain ⟨ρ, S, l, hS, hl, h⟩ := h
  refine ⟨ρ, S, l, hS, hl, (After.bind (rep := rep1) st h).imp fun x H1 q => ?_⟩
  obtain ⟨ρ1, S1, a, e1, h1, h2, h3⟩ := q
  refine ⟨ρ1, S1, l, h1, hl.ext e1, (After.bind (rep := rep2) st h3).imp fun y H2 q => ?_⟩
  obtain ⟨ρ2, S2, b, e2, h4, h5, h6⟩ := q
  exact ⟨ρ2, S2, a, b, h4, mo _ _ _ _ _ _ _ e2 h2, h5, h6⟩
theorem bind3 (st : Stable rep) (mo : Mono rep1) (mo2 : Mono rep2) {m : Loc → Store → R α} {n : Loc → Store → R ε} {o : Loc → Store → R η} {f : α → ε → η → Store → R γ} {σ : L2.St} {H : Hp} {Q : δ → Hp → Prop}
    (h : tG K cA W rep (fun l S => (m l S).bind fun a S1 => (n l S1).bind fun b S2 => (o l S2).bind (f a b)) σ H Q) :
    tG K cA W rep1 m σ H fun x H1 => tG K cA W rep2 n σ H1 fun y H2 => tG K cA W rep3 o σ H2 fun z H3 =>
      ∃ ρ S a b c, Reps K cA ρ H3 S ∧ rep1 H ρ H3 a x ∧ rep2 H1 ρ H3 b y ∧ rep3 H2 ρ H3 c z ∧ After K cA W ρ H3 rep (f a b c S) Q := by
  obtain ⟨ρ, S, l, hS, hl, h⟩ := h
  refine ⟨ρ, S, l, hS, hl, (After.bind (rep := rep1) st h).imp fun x H1 q => ?_⟩
  obtain ⟨ρ1, S1, a, e1, h1, h2, h3⟩ := q
  refine ⟨ρ1, S1, l, h1, hl.ext e1, (After.bind (rep := rep2) st h3).imp fun y H2 q => ?_⟩
  obtain ⟨ρ2, S2, b, e2, h4, h5, h6⟩ := q
  refine ⟨ρ2, S2, l, h4, (hl.ext e1).ext e2, (After.bind (rep := rep3) st h6).imp fun z H3 q => ?_⟩
  obtain ⟨ρ3, S3, c, e3, h7, h8, h9⟩ := q
  exact ⟨ρ3, S3, a, b, c, h7, mo _ _ _ _ _ _ _ e3 (mo _ _ _ _ _ _ _ e2 h2), mo2 _ _ _ _ _ _ _ e3 h5, h8, h9⟩
theorem tG.imp {m : Loc → Store → R γ} {σ : L2.St} {H : Hp} {Q Q' : δ → Hp → Prop} (h : tG K cA W rep m σ H Q) (q : ∀ b H', Q b H' → Q' b H') : tG K cA W rep m σ H Q' :=
  let ⟨ρ, S, l, hS, hl, h⟩ := h; ⟨ρ, S, l, hS, hl, h.imp q⟩
end

/-! ### names, constants -/
def varE (i : Nat) : ME := fun l S => match l[i]? with
  | some (some d) => .ok d S
  | _ => .bad
def conE (d : D) : ME := fun _ S => .ok d S
section
variable {X : Cx} {cA : Nat → Addr} {W : XK} {pos : Pos}
theorem mvar {i : Nat} {x : Str} (hN : X.N[i]? = some x) (hv : Vis X.env.scope x) (hd : (x == ("__debug__" : Str)) = false := by decide) (hcd : (x == ("__classdict__" : Str)) = false := by decide) : PE X (.Name x pos) (tE X.K cA W (varE i)) :=
  (pe_var hN hv hd hcd).imp fun σ H Q h => by
    obtain ⟨ρ, S, l, hS, hl, h⟩ := h
    unfold varE at h
    split at h
    · rename_i d e
      obtain ⟨v, hv, r⟩ := hl.at_ i d e
      exact ⟨v, hv, h.same hS r⟩
    · exact h.elim
theorem mcon {e : Expr} {d : D} {v : V} (h : PE X e (tC v)) (hr : ∀ (ρ : List Addr) (H : Hp), RepV X.K ρ H d v) : PE X e (tE X.K cA W (conE d)) :=
  h.imp fun σ H Q q => by
    obtain ⟨ρ, S, l, hS, hl, q⟩ := q
    exact After.same q hS (hr ρ H)
theorem mint {i : Int} {j : Nat} : PE X (.Constant (.int i) j pos) (tE X.K cA W (conE (.int i))) := mcon pe_int fun ρ H => by unfold RepV; rfl
theorem mstr {x : Str} {j : Nat} : PE X (.Constant (.str x) j pos) (tE X.K cA W (conE (.str x))) := mcon pe_str fun ρ H => by unfold RepV; rfl
theorem mbl {b : Bool} {j : Nat} : PE X (.Constant (.bool b) j pos) (tE X.K cA W (conE (.bl b))) := mcon pe_bl fun ρ H => by unfold RepV; rfl
theorem mnon {j : Nat} : PE X (.Constant .none j pos) (tE X.K cA W (conE .non)) := mcon pe_non fun ρ H => by unfold RepV; rfl
/-- a number that stands at the module -/
theorem mgint {x : Str} {i : Int} (hg : Gl X x) (hm : ∃ t, X.mg x = some (.int i t)) (hd : (x == ("__debug__" : Str)) = false := by decide) : PE X (.Name x pos) (tE X.K cA W (conE (.int i))) := by
  obtain ⟨t, hm⟩ := hm
  exact mcon (pe_glob (v := .int i) hg hm ⟨t, rfl⟩ hd) fun ρ H => by unfold RepV; rfl
/-- a tuple that stands at the module -/
theorem mgtup {x : Str} {ds : List D} {vs : List V} {a : Addr} (hg : Gl X x) (hm : X.mg x = some (.ref a)) (hs : ∀ H, SqT X.K H a vs) (hr : ∀ ρ H, RepVs X.K ρ H ds vs) (hd : (x == ("__debug__" : Str)) = false := by decide) : PE X (.Name x pos) (tE X.K cA W (conE (.tup ds))) :=
  mcon (pe_glob (v := .ref a) hg hm rfl hd) fun ρ H => by unfold RepV; exact ⟨a, vs, rfl, hs H, hr ρ H⟩
end

/-! ### operators -/
def binE (f : D → D → Store → R D) (m n : ME) : ME := fun l S => (m l S).bind fun a S1 => (n l S1).bind (f a)
def unE (f : D → Store → R D) (m : ME) : ME := fun l S => (m l S).bind f
def cmpM (f : D → D → Store → R Bool) (m n : ME) : MB := fun l S => (m l S).bind fun a S1 => (n l S1).bind (f a)
def toV (m : MB) : ME := fun l S => (m l S).bind fun b S1 => .ok (.bl b) S1
def chainM (f g : D → D → Store → R Bool) (m n o : ME) : MB := fun l S => (m l S).bind fun a S1 => (n l S1).bind fun b S2 => (f a b S2).bind fun t S3 => if t = true then (o l S3).bind (g b) else .ok false S3
def andM (m n : MB) : MB := fun l S => (m l S).bind fun b S1 => if b = true then n l S1 else .ok false S1
def orM (m n : MB) : MB := fun l S => (m l S).bind fun b S1 => if b = true then .ok true S1 else n l S1
def notM (m : MB) : MB := fun l S => (m l S).bind fun b S1 => .ok (!b) S1
def isBl : D → Option Bool
  | .bl b => some b
  | _ => none
def ofV (m : ME) : MB := fun l S => (m l S).bind fun d S1 => match isBl d with
  | some b => .ok b S1
  | none => .bad
def andV (m : MB) (n : ME) : ME := fun l S => (m l S).bind fun b S1 => if b = true then n l S1 else .ok (.bl false) S1
def orV (m : MB) (n : ME) : ME := fun l S => (m l S).bind fun b S1 => if b = true then .ok (.bl true) S1 else n l S1
def ifE (c : MB) (m n : ME) : ME := fun l S => (c l S).bind fun b S1 => if b = true then m l S1 else n l S1
section
variable {X : Cx} {cA : Nat → Addr} {W : XK} {pos : Pos} {a b c : Expr} {m n o : ME} {p q : MB} {f g : D → D → Store → R Bool}
theorem mbin {op : Operator} {f : D → D → Store → R D} (ho : OpR X (binaryOp op) (t2 X.K cA W (rV X.K) f)) (ha : PE X a (tE X.K cA W m)) (hb : PE X b (tE X.K cA W n)) : PE X (.BinOp a op b pos) (tE X.K cA W (binE f m n)) :=
  (pe_op ho ha hb).imp fun σ H Q h => bind2 st_V mo_V h
theorem mun {op : UnaryOp} {f : D → Store → R D} (ho : UnR X (unaryOp op) (t1 X.K cA W (rV X.K) f)) (ha : PE X a (tE X.K cA W m)) : PE X (.UnaryOp op a pos) (tE X.K cA W (unE f m)) :=
  (pe_un ho ha).imp fun σ H Q h => bind1 st_V h
theorem After.toV {K : PySem.W.Frag} {ρ : List Addr} {H : Hp} {Q : V → Hp → Prop} {r : R Bool} (h : After K cA W ρ H (rV K) (r.bind fun b S1 => .ok (.bl b) S1) Q) : After K cA W ρ H rId r fun b H' => Q (.bl b) H' := by
  cases r with
  | ok b S => exact fun ρ' H' b' e hs hb => by subst hb; exact h ρ' H' (.bl b) e hs (by unfold rV RepV; rfl)
  | ex x S => exact h
  | bad => exact h
theorem tE_toV {σ : L2.St} {H : Hp} {Q : VK} (h : tE X.K cA W (toV p) σ H Q) : tT X.K cA W p σ H fun b H' => Q (.bl b) H' :=
  let ⟨ρ, S, l, hS, hl, h⟩ := h; ⟨ρ, S, l, hS, hl, h.toV⟩
theorem mcmp {op : CmpOp} (ho : OpR X (compareOp op) (tC2 X.K cA W f)) (ha : PE X a (tE X.K cA W m)) (hb : PE X b (tE X.K cA W n)) (hm : behindInMarks op b = false) : PE X (.Compare a [op] [b] pos) (tE X.K cA W (toV (cmpM f m n))) :=
  (pe_cmpR ho ha hb hm).imp fun σ H Q h => bind2 st_Id mo_V (tE_toV h)
theorem mcmpT {op : CmpOp} (ho : OpR X (compareOp op) (tC2 X.K cA W f)) (ha : PE X a (tE X.K cA W m)) (hb : PE X b (tE X.K cA W n)) (hm : behindInMarks op b = false) : PT X (.Compare a [op] [b] pos) (tT X.K cA W (cmpM f m n)) :=
  (pt_cmpR ho ha hb hm).imp fun σ H Q h => (bind2 st_Id mo_V h).imp fun x H1 h => tG.imp h fun y H2 h => by
    obtain ⟨ρ, S, d, e, hS, hd, he, h⟩ := h
    exact ⟨ρ, S, d, e, hS, hd, he, h.imp fun t H3 q => ⟨t, rfl, q⟩⟩
/-- what a chain asks -/
theorem chain_of {σ : L2.St} {H : Hp} {Q : Bool → Hp → Prop} {Q' : VK} (hQ : ∀ t H', Q t H' → Q' (.bl t) H') (h : tT X.K cA W (chainM f g m n o) σ H Q) :
    tChain (tC2 X.K cA W f) (tC2 X.K cA W g) (tE X.K cA W m) (tE X.K cA W n) (tE X.K cA W o) σ H Q' := by
  obtain ⟨ρ, S, l, hS, hl, h⟩ := h
  refine ⟨ρ, S, l, hS, hl, (After.bind (rep := rV X.K) st_Id h).imp fun x H1 q => ?_⟩
  obtain ⟨ρ1, S1, d, e1, h1, h2, h3⟩ := q
  refine ⟨ρ1, S1, l, h1, hl.ext e1, (After.bind (rep := rV X.K) st_Id h3).imp fun y H2 q => ?_⟩
  obtain ⟨ρ2, S2, e, e2, h4, h5, h6⟩ := q
  refine ⟨ρ2, S2, d, e, h4, h2.ext e2, h5, (After.bind (rep := rId) st_Id h6).imp fun t H3 q => ?_⟩
  obtain ⟨ρ3, S3, t', e3, h7, h8, h9⟩ := q
  subst h8
  refine ⟨t', rfl, ?_⟩
  cases t' with
  | true =>
    simp only [if_true] at h9 ⊢
    refine ⟨ρ3, S3, l, h7, ((hl.ext e1).ext e2).ext e3, (After.bind (rep := rV X.K) st_Id h9).imp fun z H4 q => ?_⟩
    obtain ⟨ρ4, S4, d4, e4, h10, h11, h12⟩ := q
    exact ⟨ρ4, S4, e, d4, h10, (h5.ext e3).ext e4, h11, h12.imp hQ⟩
  | false =>
    exact hQ _ _ (After.same h9 h7 rfl)
theorem mchain {op op' : CmpOp} (ho : OpR X (compareOp op) (tC2 X.K cA W f)) (ho' : OpR X (compareOp op') (tC2 X.K cA W g)) (ha : PE X a (tE X.K cA W m)) (hb : PE X b (tE X.K cA W n)) (hc : PE X c (tE X.K cA W o))
    (hm : lastMarks [op, op'] [b, c] = false := by with_unfolding_all rfl) : PE X (.Compare a [op, op'] [b, c] pos) (tE X.K cA W (toV (chainM f g m n o))) :=
  (pe_chain ho ho' ha hb hc hm).imp fun σ H Q h => chain_of (fun _ _ q => q) (tE_toV h)
theorem mchainT {op op' : CmpOp} (ho : OpR X (compareOp op) (tC2 X.K cA W f)) (ho' : OpR X (compareOp op') (tC2 X.K cA W g)) (ha : PE X a (tE X.K cA W m)) (hb : PE X b (tE X.K cA W n)) (hc : PE X c (tE X.K cA W o))
    (hm : lastMarks [op, op'] [b, c] = false := by with_unfolding_all rfl) : PT X (.Compare a [op, op'] [b, c] pos) (tT X.K cA W (chainM f g m n o)) :=
  (pt_chain ho ho' ha hb hc hm).imp fun σ H Q h => chain_of (fun t _ q => ⟨t, rfl, q⟩) h
/-! tests -/
theorem mand1 (ha : PT X a (tT X.K cA W p)) : PW X (.BoolOp .And [a] pos) (tT X.K cA W p) := pw_and1 ha
theorem mor1 (ha : PT X a (tT X.K cA W p)) : PW X (.BoolOp .Or [a] pos) (tT X.K cA W p) := pw_or1 ha
theorem and_of {R' : Type} {δ : Type} {rep : Rel R' δ} (st : Stable rep) {k : Loc → Bool → Store → R R'} {σ : L2.St} {H : Hp} {Q : δ → Hp → Prop} (h : tG X.K cA W rep (fun l S => (p l S).bind (k l)) σ H Q) :
    tT X.K cA W p σ H fun t H1 => ∃ ρ S l, Reps X.K cA ρ H1 S ∧ RepL X.K ρ H1 l σ ∧ After X.K cA W ρ H1 rep (k l t S) Q := by
  refine (bind1L (rep1 := rId) st h).imp fun x H1 q => ?_
  obtain ⟨ρ, S, l, t, h1, h2, h3, h4⟩ := q
  subst h3
  exact ⟨ρ, S, l, h1, h2, h4⟩
theorem mandT {rest : List Expr} (ha : PT X a (tT X.K cA W p)) (hb : PW X (.BoolOp .And (b :: rest) pos) (tT X.K cA W q)) : PW X (.BoolOp .And (a :: b :: rest) pos) (tT X.K cA W (andM p q)) :=
  (pw_and ha hb).imp fun σ H Q h => (and_of st_Id h).imp fun t H1 q => by
    obtain ⟨ρ, S, l, h1, h2, h3⟩ := q
    cases t with
    | true => exact ⟨ρ, S, l, h1, h2, h3⟩
    | false => exact After.same h3 h1 rfl
theorem morT {rest : List Expr} (ha : PT X a (tT X.K cA W p)) (hb : PW X (.BoolOp .Or (b :: rest) pos) (tT X.K cA W q)) : PW X (.BoolOp .Or (a :: b :: rest) pos) (tT X.K cA W (orM p q)) :=
  (pw_or ha hb).imp fun σ H Q h => (and_of st_Id h).imp fun t H1 q => by
    obtain ⟨ρ, S, l, h1, h2, h3⟩ := q
    cases t with
    | true => exact After.same h3 h1 rfl
    | false => exact ⟨ρ, S, l, h1, h2, h3⟩
theorem mnotT (ha : PT X a (tT X.K cA W p)) : PT X (.UnaryOp .Not a pos) (tT X.K cA W (notM p)) :=
  (pt_not ha).imp fun σ H Q h => (and_of st_Id h).imp fun t H1 q => by
    obtain ⟨ρ, S, l, h1, h2, h3⟩ := q
    exact After.same h3 h1 rfl
/-! values -/
theorem After.ofV {K : PySem.W.Frag} {ρ : List Addr} {H : Hp} {Q : Bool → Hp → Prop} {r : R D} (h : After K cA W ρ H rId (r.bind fun d S1 => match isBl d with | some b => .ok b S1 | none => .bad) Q) :
    After K cA W ρ H (rV K) r fun v H' => ∃ t, v = .bl t ∧ Q t H' := by
  cases r with
  | ok d S =>
    intro ρ' H' v e hs hv
    cases d with
    | bl t => unfold rV RepV at hv; exact ⟨t, hv, h ρ' H' t e hs rfl⟩
    | _ => exact h.elim
  | ex x S => exact h
  | bad => exact h
/-- a value that is a truth, asked -/
theorem ofV_of {σ : L2.St} {H : Hp} {Q : Bool → Hp → Prop} (h : tT X.K cA W (ofV m) σ H Q) : tE X.K cA W m σ H fun v H' => ∃ t, v = .bl t ∧ Q t H' :=
  let ⟨ρ, S, l, hS, hl, h⟩ := h; ⟨ρ, S, l, hS, hl, h.ofV⟩
theorem mval (ha : PE X a (tE X.K cA W m)) (he : ∀ whole, isTrue a X.env whole = (do let v ← whole; standAt a.pos; holding [v] (truthy v)) := by intro _; rfl) : PT X a (tT X.K cA W (ofV m)) :=
  (pt_val ha he).imp fun σ H Q h => ofV_of h
theorem mand {rest : List Expr} (ha : PE X a (tE X.K cA W m)) (hb : PE X (.BoolOp .And (b :: rest) pos) (tE X.K cA W n)) : PE X (.BoolOp .And (a :: b :: rest) pos) (tE X.K cA W (andV (ofV m) n)) :=
  (pe_and ha hb).imp fun σ H Q h => ofV_of ((and_of (p := ofV m) st_V h).imp fun t H1 q => by
    obtain ⟨ρ, S, l, h1, h2, h3⟩ := q
    cases t with
    | true => exact ⟨ρ, S, l, h1, h2, h3⟩
    | false => exact After.same h3 h1 (by unfold rV RepV; rfl))
theorem mor {rest : List Expr} (ha : PE X a (tE X.K cA W m)) (hb : PE X (.BoolOp .Or (b :: rest) pos) (tE X.K cA W n)) : PE X (.BoolOp .Or (a :: b :: rest) pos) (tE X.K cA W (orV (ofV m) n)) :=
  (pe_or ha hb).imp fun σ H Q h => ofV_of ((and_of (p := ofV m) st_V h).imp fun t H1 q => by
    obtain ⟨ρ, S, l, h1, h2, h3⟩ := q
    cases t with
    | true => exact After.same h3 h1 (by unfold rV RepV; rfl)
    | false => exact ⟨ρ, S, l, h1, h2, h3⟩)
theorem mone {op : BoolOp} (h : PE X a (tE X.K cA W m)) : PE X (.BoolOp op [a] pos) (tE X.K cA W m) := pe_one h
theorem mnot (ha : PE X a (tE X.K cA W m)) : PE X (.UnaryOp .Not a pos) (tE X.K cA W (toV (notM (ofV m)))) :=
  (pe_not ha).imp fun σ H Q h => ofV_of ((and_of (p := ofV m) st_Id (tE_toV h)).imp fun t H1 q => by
    obtain ⟨ρ, S, l, h1, h2, h3⟩ := q
    exact After.same (Q := fun b H' => Q (.bl b) H') (rep := rId) (b := !t) h3 h1 rfl)
theorem mif (hc : PT X c (tT X.K cA W p)) (ha : PE X a (tE X.K cA W m)) (hb : PE X b (tE X.K cA W n)) : PE X (.IfExp c a b pos) (tE X.K cA W (ifE p m n)) :=
  (pe_ifExp hc ha hb).imp fun σ H Q h => (and_of (p := p) st_V h).imp fun t H1 q => by
    obtain ⟨ρ, S, l, h1, h2, h3⟩ := q
    cases t with
    | true => exact ⟨ρ, S, l, h1, h2, h3⟩
    | false => exact ⟨ρ, S, l, h1, h2, h3⟩
end
end ML

set_option Elab.async false
set_option linter.all false
set_option maxRecDepth 100000
set_option autoImplicit false
/-! ML5: displays, items, slices, calls of what is built in. -/
namespace ML
open PySem PySem.Spec L2

/-! ### arguments, displays -/
def nilA : MA := fun _ S => .ok [] S
def consA (m : ME) (n : MA) : MA := fun l S => (m l S).bind fun d S1 => (n l S1).bind fun ds S2 => .ok (d :: ds) S2
def tupE (m : MA) : ME := fun l S => (m l S).bind fun ds S1 => if ds.length ≤ sizeLine then .ok (.tup ds) S1 else .bad
def lstN (m : MA) : MA := fun l S => (m l S).bind fun ds S1 => if ds.length ≤ sizeLine then .ok ds S1 else .bad
def allocE (m : MA) : ME := fun l S => (m l S).bind fun ds S1 => newC (.lst ds) S1
section
variable {X : Cx} {cA : Nat → Addr} {W : XK} {pos : Pos} {e : Expr} {es : List Expr} {m : ME} {n : MA}
theorem anil : PA X [] (tAs X.K cA W nilA) := pa_nil.imp fun σ H Q h => by
  obtain ⟨ρ, S, l, hS, hl, h⟩ := h
  exact After.same h hS .nil
theorem acons (ha : PE X e (tE X.K cA W m)) (hr : PA X es (tAs X.K cA W n)) (hs : starEach (e :: es) X.env = (false, eval e X.env) :: starEach es X.env := by rfl) : PA X (e :: es) (tAs X.K cA W (consA m n)) :=
  (pa_cons ha hr hs).imp fun σ H Q h => (bind2 (rep1 := rV X.K) (rep2 := rVs X.K) st_Vs mo_V h).imp fun x H1 h => tG.imp h fun xs H2 h => by
    obtain ⟨ρ, S, a, b, hS, h1, h2, h⟩ := h
    exact After.same h hS (.cons h1 h2)
theorem mtup {k : Nat} (h : PA X es (tAs X.K cA W n)) : PE X (.Tuple es k pos) (tE X.K cA W (tupE n)) :=
  (pe_tup h).imp fun σ H Q h => (bind1 (rep1 := rVs X.K) st_V h).imp fun xs H1 h => by
    obtain ⟨ρ, S, ds, hS, hr, h⟩ := h
    split at h
    · rename_i hz
      exact ⟨by rw [RepVs.length hr]; exact hz, fun p hp => h.tup hS hp hr⟩
    · exact h.elim
/-- a new list, told as new -/
theorem After.fresh {K : PySem.W.Frag} {ρ : List Addr} {H : Hp} {S : Store} {ds : List D} {vs : List V} {p : Addr} {Q : V → Hp → Prop} (h : After K cA W ρ H (rNew K) (.ok ds S) Q) (hS : Reps K cA ρ H S) (hp : H p = none) (hr : RepVs K ρ H ds vs) : Q (.ref p) (upd H p (.lst vs)) :=
  h ρ _ _ (Ext.new hp) (hS.new hp) ⟨p, vs, rfl, hp, hS.free hp, upd_same, hr.ext (Ext.new hp)⟩
theorem mlst (h : PA X es (tAs X.K cA W n)) : PE X (.List es pos) (tNw X.K cA W (lstN n)) :=
  (pe_lst h).imp fun σ H Q h => (bind1 (rep1 := rVs X.K) st_New h).imp fun xs H1 h => by
    obtain ⟨ρ, S, ds, hS, hr, h⟩ := h
    split at h
    · rename_i hz
      exact ⟨by rw [RepVs.length hr]; exact hz, fun p hp => h.fresh hS hp hr⟩
    · exact h.elim
/-- a new list is taken into the store -/
theorem malloc {n : MA} (h : PE X e (tNw X.K cA W n)) : PE X e (tE X.K cA W (allocE n)) := h.imp fun σ H Q h => by
  obtain ⟨ρ, S, l, hS, hl, h⟩ := h
  refine ⟨ρ, S, l, hS, hl, ?_⟩
  unfold allocE at h
  generalize n l S = r at h
  cases r with
  | ok ds S1 =>
    intro ρ' H' v e1 hs hr
    obtain ⟨p, vs, rfl, h0, hn, h1, h2⟩ := hr
    refine h (ρ' ++ [p]) H' (.ref p) (e1.take h0) (hs.push hn ⟨vs, h1, h2⟩) ?_
    show RepV X.K (ρ' ++ [p]) H' (.ref S1.length) (.ref p)
    unfold RepV
    exact ⟨p, by rw [← hs.len, List.getElem?_append_right (Nat.le_refl _)]; simp, rfl⟩
  | ex x S1 => exact h
  | bad => exact h
/-- a tuple is met as a tuple that stands -/
theorem mnew_of {n : MA} {σ : L2.St} {H : Hp} {Q : VK} {β' : Type} {α' : Type} {rep : Rel α' β'} {f : List D → Store → R α'} {Q' : β' → Hp → Prop} (st : Stable rep) (h : tG X.K cA W rep (fun l S => (n l S).bind f) σ H Q') :
    tNw X.K cA W n σ H fun v H1 => ∃ ρ S ds p vs, Reps X.K cA ρ H1 S ∧ v = .ref p ∧ SqL X.K H1 p vs ∧ RepVs X.K ρ H1 ds vs ∧ After X.K cA W ρ H1 rep (f ds S) Q' :=
  (bind1 (rep1 := rNew X.K) st h).imp fun v H1 h => by
    obtain ⟨ρ, S, ds, hS, ⟨p, vs, ev, _, _, h1, h2⟩, h⟩ := h
    exact ⟨ρ, S, ds, p, vs, hS, ev, SqL.of h1, h2, h⟩
end

/-! ### built-in calls by values -/
/-- of one list: a new one, or one that stands -/
def tL1 (K : PySem.W.Frag) (cA : Nat → Addr) (W : XK) {α β : Type} (rep : Rel α β) (f : List D → Store → R α) : List V → Hp → (β → Hp → Prop) → Prop := fun xs H Q =>
  ∃ ρ S ds p vs, Reps K cA ρ H S ∧ xs = [.ref p] ∧ SqL K H p vs ∧ RepVs K ρ H ds vs ∧ After K cA W ρ H rep (f ds S) Q
def newL {α : Type} (f : List D → Store → R α) (n : MA) : Loc → Store → R α := fun l S => (n l S).bind f
def ofL {α : Type} (f : List D → Store → R α) (m : ME) : Loc → Store → R α := fun l S => (m l S).bind fun d S1 => match lstOf S1 d with
  | some ds => f ds S1
  | none => .bad
def callA (f : List D → Store → R D) (n : MA) : ME := fun l S => (n l S).bind f
section
variable {X : Cx} {cA : Nat → Addr} {W : XK} {pos p0 : Pos} {e : Expr} {es : List Expr} {m : ME} {n : MA} {x : Str} {id T : String} {f : List D → Store → R D}
theorem newL_of {α β : Type} {rep : Rel α β} {f : List D → Store → R α} (st : Stable rep) {σ : L2.St} {H : Hp} {Q : β → Hp → Prop} (h : tG X.K cA W rep (newL f n) σ H Q) : tCons (tNw X.K cA W n) tNil σ H fun xs H1 => tL1 X.K cA W rep f xs H1 Q :=
  (bind1 (rep1 := rNew X.K) st h).imp fun v H1 h => by
    obtain ⟨ρ, S, ds, hS, ⟨p, vs, rfl, _, _, h1, h2⟩, h⟩ := h
    exact ⟨ρ, S, ds, p, vs, hS, rfl, SqL.of h1, h2, h⟩
theorem ofL_of {α β : Type} {rep : Rel α β} {f : List D → Store → R α} (st : Stable rep) {σ : L2.St} {H : Hp} {Q : β → Hp → Prop} (h : tG X.K cA W rep (ofL f m) σ H Q) : tCons (tE X.K cA W m) tNil σ H fun xs H1 => tL1 X.K cA W rep f xs H1 Q :=
  (bind1 (rep1 := rV X.K) st h).imp fun v H1 h => by
    obtain ⟨ρ, S, d, hS, hr, h⟩ := h
    split at h
    · rename_i ds e1
      obtain ⟨p, vs, rfl, h1, h2⟩ := lst_rep hS hr e1
      exact ⟨ρ, S, ds, p, vs, hS, rfl, h1, h2, h⟩
    · exact h.elim
/-- f(new list), f built in -/
theorem mcallN {α : Type} {rep : Rel α V} {f : List D → Store → R α} (st : Stable rep) (hc : CallR X (.builtin id) (tL1 X.K cA W rep f)) (hg : Gl X x) (hm : X.mg x = none) (hv : bootBuiltins x = some (.builtin id)) (ha : PE X e (tNw X.K cA W n)) (hn : x ≠ "__name__" := by decide) (hdb : (x == ("__debug__" : Str)) = false := by decide)
    (he : starEach [e] X.env = (false, eval e X.env) :: starEach [] X.env := by rfl) (hpl : (backTo pos (starEach [] X.env)).any (·.1) = false := by rfl) : PE X (.Call (.Name x p0) [e] [] pos) (tG X.K cA W rep (newL f n)) :=
  (pe_callB hc hg hm hv (pa_cons ha pa_nil he) hn hdb he hpl).imp fun σ H Q h => newL_of st h
theorem mcallL {α : Type} {rep : Rel α V} {f : List D → Store → R α} (st : Stable rep) (hc : CallR X (.builtin id) (tL1 X.K cA W rep f)) (hg : Gl X x) (hm : X.mg x = none) (hv : bootBuiltins x = some (.builtin id)) (ha : PE X e (tE X.K cA W m)) (hn : x ≠ "__name__" := by decide) (hdb : (x == ("__debug__" : Str)) = false := by decide)
    (he : starEach [e] X.env = (false, eval e X.env) :: starEach [] X.env := by rfl) (hpl : (backTo pos (starEach [] X.env)).any (·.1) = false := by rfl) : PE X (.Call (.Name x p0) [e] [] pos) (tG X.K cA W rep (ofL f m)) :=
  (pe_callB hc hg hm hv (pa_cons ha pa_nil he) hn hdb he hpl).imp fun σ H Q h => ofL_of st h
/-- T(new list), T a built-in class -/
theorem mtyN {α : Type} {rep : Rel α V} {f : List D → Store → R α} (st : Stable rep) (hc : CallR X (.type T) (tL1 X.K cA W rep f)) (hg : Gl X x) (hm : X.mg x = none) (hv : bootBuiltins x = some (.type T)) (ha : PE X e (tNw X.K cA W n)) (hn : x ≠ "__name__" := by decide) (hdb : (x == ("__debug__" : Str)) = false := by decide)
    (he : starEach [e] X.env = (false, eval e X.env) :: starEach [] X.env := by rfl) (hpl : (backTo pos (starEach [] X.env)).any (·.1) = false := by rfl) : PE X (.Call (.Name x p0) [e] [] pos) (tG X.K cA W rep (newL f n)) :=
  (pe_callTy hc hg hm hv (pa_cons ha pa_nil he) hn hdb he hpl).imp fun σ H Q h => newL_of st h
/-- f(values) -/
theorem mcallV {α : Type} {rep : Rel α V} {f : List D → Store → R α} (st : Stable rep) (hc : CallR X (.builtin id) (tN X.K cA W rep f)) (hg : Gl X x) (hm : X.mg x = none) (hv : bootBuiltins x = some (.builtin id)) (ha : PA X (e :: es) (tAs X.K cA W n)) (hn : x ≠ "__name__" := by decide) (hdb : (x == ("__debug__" : Str)) = false := by decide)
    (he : starEach (e :: es) X.env = (false, eval e X.env) :: starEach es X.env := by rfl) (hpl : (backTo pos (starEach es X.env)).any (·.1) = false := by rfl) : PE X (.Call (.Name x p0) (e :: es) [] pos) (tG X.K cA W rep (newL f n)) :=
  (pe_callB hc hg hm hv ha hn hdb he hpl).imp fun σ H Q h => (bind1 (rep1 := rVs X.K) st h).imp fun vs H1 h => h
theorem mtyV {α : Type} {rep : Rel α V} {f : List D → Store → R α} (st : Stable rep) (hc : CallR X (.type T) (tN X.K cA W rep f)) (hg : Gl X x) (hm : X.mg x = none) (hv : bootBuiltins x = some (.type T)) (ha : PA X (e :: es) (tAs X.K cA W n)) (hn : x ≠ "__name__" := by decide) (hdb : (x == ("__debug__" : Str)) = false := by decide)
    (he : starEach (e :: es) X.env = (false, eval e X.env) :: starEach es X.env := by rfl) (hpl : (backTo pos (starEach es X.env)).any (·.1) = false := by rfl) : PE X (.Call (.Name x p0) (e :: es) [] pos) (tG X.K cA W rep (newL f n)) :=
  (pe_callTy hc hg hm hv ha hn hdb he hpl).imp fun σ H Q h => (bind1 (rep1 := rVs X.K) st h).imp fun vs H1 h => h
end

/-! #### of lists -/
def allL (ds : List D) (S : Store) : R D := match mapO isBl ds with
  | some bs => .ok (.bl (bs.all id)) S
  | none => .bad
def anyL (ds : List D) (S : Store) : R D := match mapO isBl ds with
  | some bs => .ok (.bl (bs.any id)) S
  | none => .bad
def intO : D → Option Int
  | .int i => some i
  | _ => none
def strO : D → Option Str
  | .str x => some x
  | _ => none
def sumL (ds : List D) (S : Store) : R D := match mapO intO ds with
  | some ns => .ok (.int ns.sum) S
  | none => .bad
def lenL (ds : List D) (S : Store) : R D := .ok (.int ds.length) S
def tupL (ds : List D) (S : Store) : R D := .ok (.tup ds) S
def sortI (ns : List Int) : List Int := ns.mergeSort (fun a b => decide (a ≤ b))
def sortL (ds : List D) (S : Store) : R (List D) := match mapO intO ds with
  | some ns => .ok ((sortI ns).map .int) S
  | none => .bad
section
variable {X : Cx} {cA : Nat → Addr} {W : XK} {K : PySem.W.Frag} {ρ : List Addr} {H : Hp}
theorem bls_rep : ∀ {ds : List D} {vs : List V} {bs : List Bool}, mapO isBl ds = some bs → RepVs K ρ H ds vs → vs = bs.map V.bl
  | [], vs, bs, h, r => by unfold RepVs at r; subst r; cases h; rfl
  | d :: ds, vs, bs, h, r => by
    unfold RepVs at r
    obtain ⟨v, q, rfl, h1, h2⟩ := r
    unfold mapO at h
    split at h
    · rename_i y ys e1 e2
      cases h
      cases d with
      | bl b => cases e1; unfold RepV at h1; rw [h1, bls_rep e2 h2]; rfl
      | _ => cases e1
    · cases h
theorem ints_rep : ∀ {ds : List D} {vs : List V} {bs : List Int}, mapO intO ds = some bs → RepVs K ρ H ds vs → vs = bs.map V.int
  | [], vs, bs, h, r => by unfold RepVs at r; subst r; cases h; rfl
  | d :: ds, vs, bs, h, r => by
    unfold RepVs at r
    obtain ⟨v, q, rfl, h1, h2⟩ := r
    unfold mapO at h
    split at h
    · rename_i y ys e1 e2
      cases h
      cases d with
      | int b => cases e1; unfold RepV at h1; rw [h1, ints_rep e2 h2]; rfl
      | _ => cases e1
    · cases h
theorem strs_rep : ∀ {ds : List D} {vs : List V} {bs : List Str}, mapO strO ds = some bs → RepVs K ρ H ds vs → vs = bs.map V.str
  | [], vs, bs, h, r => by unfold RepVs at r; subst r; cases h; rfl
  | d :: ds, vs, bs, h, r => by
    unfold RepVs at r
    obtain ⟨v, q, rfl, h1, h2⟩ := r
    unfold mapO at h
    split at h
    · rename_i y ys e1 e2
      cases h
      cases d with
      | str b => cases e1; unfold RepV at h1; rw [h1, strs_rep e2 h2]; rfl
      | _ => cases e1
    · cases h
theorem c_all (hc : X.calm = true) : CallR X (.builtin "all") (tL1 X.K cA W (rV X.K) allL) := CallR.imp (cr_all hc) fun xs H Q h => by
  obtain ⟨ρ, S, ds, p, vs, hS, rfl, h1, h2, h⟩ := h
  unfold allL at h
  split at h
  · rename_i bs e
    have := bls_rep e h2
    subst this
    exact ⟨p, bs, rfl, h1, h.same hS (by unfold rV RepV; rfl)⟩
  · exact h.elim
theorem c_any (hc : X.calm = true) : CallR X (.builtin "any") (tL1 X.K cA W (rV X.K) anyL) := CallR.imp (cr_any hc) fun xs H Q h => by
  obtain ⟨ρ, S, ds, p, vs, hS, rfl, h1, h2, h⟩ := h
  unfold anyL at h
  split at h
  · rename_i bs e
    have := bls_rep e h2
    subst this
    exact ⟨p, bs, rfl, h1, h.same hS (by unfold rV RepV; rfl)⟩
  · exact h.elim
theorem c_sum (hc : X.calm = true) : CallR X (.builtin "sum") (tL1 X.K cA W (rV X.K) sumL) := CallR.imp (cr_sum hc) fun xs H Q h => by
  obtain ⟨ρ, S, ds, p, vs, hS, rfl, h1, h2, h⟩ := h
  unfold sumL at h
  split at h
  · rename_i bs e
    have := ints_rep e h2
    subst this
    exact ⟨p, bs, rfl, h1, h.same hS (by unfold rV RepV; rfl)⟩
  · exact h.elim
theorem c_len : CallR X (.builtin "len") (tL1 X.K cA W (rV X.K) lenL) := CallR.imp call_len_seq fun xs H Q h => by
  obtain ⟨ρ, S, ds, p, vs, hS, rfl, h1, h2, h⟩ := h
  refine ⟨p, vs, rfl, .inl h1, h.same hS ?_⟩
  unfold rV RepV
  rw [RepVs.length h2]
theorem c_tup : CallR X (.type "tuple") (tL1 X.K cA W (rV X.K) tupL) := CallR.imp call_tuple_of fun xs H Q h => by
  obtain ⟨ρ, S, ds, p, vs, hS, rfl, h1, h2, h⟩ := h
  exact ⟨p, vs, rfl, .inl ⟨h1, fun q hq => After.tup h hS hq h2⟩⟩
theorem sortI_eq {ns ms : List Int} (hp : ms.Perm ns) (hs : ms.Pairwise (· ≤ ·)) : ms = sortI ns := by
  have h1 : (sortI ns).Pairwise (· ≤ ·) := by
    have := List.pairwise_mergeSort (le := fun (a b : Int) => decide (a ≤ b)) (fun a b c h1 h2 => by simp only [decide_eq_true_eq] at *; omega) (fun a b => by simp only [Bool.or_eq_true, decide_eq_true_eq]; omega) ns
    exact this.imp fun h => by simpa using h
  have h2 : (sortI ns).Perm ns := List.mergeSort_perm ns _
  exact (hp.trans h2.symm).eq_of_pairwise (fun a b _ _ h1 h2 => by omega) hs h1
theorem c_sort : CallR X (.builtin "sorted") (tL1 X.K cA W (rNew X.K) sortL) := CallR.imp cr_sortedI fun xs H Q h => by
  obtain ⟨ρ, S, ds, p, vs, hS, rfl, h1, h2, h⟩ := h
  unfold sortL at h
  split at h
  · rename_i bs e
    have := ints_rep e h2
    subst this
    refine ⟨p, bs, rfl, h1, fun ns' q hp hs hq => ?_⟩
    rw [← sortI_eq hp hs] at h
    exact After.fresh h hS hq RepVs.of_ints
  · exact h.elim
end

/-! #### of values -/
def lenV (ds : List D) (S : Store) : R D := match ds with
  | [.str x] => if x.length ≤ sizeLine then .ok (.int x.length) S else .bad
  | [d] => match seqOf S d with
    | some xs => .ok (.int xs.length) S
    | none => match d with
      | .ref n => match dctAt S n with
        | some kvs => .ok (.int kvs.length) S
        | none => .bad
      | _ => .bad
  | _ => .bad
def absV (ds : List D) (S : Store) : R D := match ds with
  | [.int i] => .ok (.int (if i < 0 then -i else i)) S
  | _ => .bad
def maxV (ds : List D) (S : Store) : R D := match ds with
  | [.int i, .int j] => .ok (.int (if j > i then j else i)) S
  | _ => .bad
def minV (ds : List D) (S : Store) : R D := match ds with
  | [.int i, .int j] => .ok (.int (if j < i then j else i)) S
  | _ => .bad
def intV (ds : List D) (S : Store) : R D := match ds with
  | [.int i] => .ok (.int i) S
  | [.bl b] => .ok (.int (if b = true then 1 else 0)) S
  | _ => .bad
def ordV (ds : List D) (S : Store) : R D := match ds with
  | [.str x] => if x.length = 1 then .ok (.int (x.cps.getD 0 0 : Nat)) S else .bad
  | _ => .bad
/-- str of a number -/
def strV (ds : List D) (S : Store) : R D := match ds with
  | [.int i] => if i.natAbs.log2 < 1920 then .ok (.str (toString i)) S else .bad
  | _ => .bad
def listV (ds : List D) (S : Store) : R (List D) := match ds with
  | [d] => match seqOf S d with
    | some xs => .ok xs S
    | none => match d with
      | .ref n => match dctAt S n with
        | some kvs => .ok (kvs.map fun kv => match kv.1 with | .inl i => .int i | .inr x => .str x) S
        | none => .bad
      | _ => .bad
  | _ => .bad
def tupV (ds : List D) (S : Store) : R D := match ds with
  | [.tup xs] => .ok (.tup xs) S
  | [d] => match lstOf S d with
    | some xs => .ok (.tup xs) S
    | none => .bad
  | _ => .bad
section
variable {X : Cx} {cA : Nat → Addr} {W : XK} {K : PySem.W.Frag} {ρ : List Addr} {H : Hp} {S : Store}
theorem one_rep {d : D} {xs : List V} (h : RepVs K ρ H [d] xs) : ∃ v, xs = [v] ∧ RepV K ρ H d v := by
  unfold RepVs at h
  obtain ⟨v, r, rfl, h1, h2⟩ := h
  unfold RepVs at h2
  exact ⟨v, by rw [h2], h1⟩
theorem two_rep {d e : D} {xs : List V} (h : RepVs K ρ H [d, e] xs) : ∃ v w, xs = [v, w] ∧ RepV K ρ H d v ∧ RepV K ρ H e w := by
  unfold RepVs at h
  obtain ⟨v, r, rfl, h1, h2⟩ := h
  obtain ⟨w, rfl, h3⟩ := one_rep h2
  exact ⟨v, w, rfl, h1, h3⟩
theorem seqOf_ref {S : Store} {d : D} : (∀ x, d ≠ .str x) ∨ True := .inr trivial
theorem c_lenV : CallR X (.builtin "len") (tN X.K cA W (rV X.K) lenV) := CallR.imp ((call_len (X := X)).or (call_lenD (X := X))) fun xs H Q h => by
  obtain ⟨ρ, S, ds, hS, hr, h⟩ := h
  unfold lenV at h
  split at h
  · rename_i x
    obtain ⟨v, rfl, h1⟩ := one_rep hr
    split at h
    · rename_i hz
      unfold RepV at h1
      subst h1
      exact .inl ⟨.str x, x.length, rfl, ⟨hz, rfl⟩, h.same hS (by unfold rV RepV; rfl)⟩
    · exact h.elim
  · rename_i d _
    obtain ⟨v, rfl, h1⟩ := one_rep hr
    split at h
    · rename_i ys e
      obtain ⟨a, vs, rfl, h2, h3⟩ := seq_rep hS h1 e
      refine .inl ⟨.ref a, ys.length, rfl, ?_, h.same hS (by unfold rV RepV; rfl)⟩
      rcases h2 with h2 | h2
      · exact .inl ⟨vs, h2, (RepVs.length h3).symm⟩
      · exact .inr ⟨vs, h2, (RepVs.length h3).symm⟩
    · split at h
      · split at h
        · rename_i kvs e
          obtain ⟨a, ps, rfl, _, h2, h3⟩ := rdct_rep hS h1 e
          refine .inr ⟨a, ps, rfl, h2, h.same hS ?_⟩
          unfold rV RepV
          rw [len_repP h3]
        · exact h.elim
      · exact h.elim
  · exact h.elim
where
  len_repP {K : PySem.W.Frag} {ρ : List Addr} {H : Hp} : ∀ {kvs : List (Key × D)} {ps : List (Key × V)}, RepP K ρ H kvs ps → ps.length = kvs.length
    | [], ps, h => by unfold RepP at h; rw [h]; rfl
    | (k, x) :: r, ps, h => by
      unfold RepP at h
      obtain ⟨v, q, rfl, _, h2⟩ := h
      rw [List.length_cons, List.length_cons, len_repP h2]
theorem c_abs : CallR X (.builtin "abs") (tN X.K cA W (rV X.K) absV) := CallR.imp call_abs fun xs H Q h => by
  obtain ⟨ρ, S, ds, hS, hr, h⟩ := h
  unfold absV at h
  split at h
  · obtain ⟨v, rfl, h1⟩ := one_rep hr
    unfold RepV at h1
    subst h1
    exact ⟨_, rfl, h.same hS (by unfold rV RepV; rfl)⟩
  · exact h.elim
theorem c_max (hc : X.calm = true) : CallR X (.builtin "max") (tN X.K cA W (rV X.K) maxV) := CallR.imp (call_max2 hc) fun xs H Q h => by
  obtain ⟨ρ, S, ds, hS, hr, h⟩ := h
  unfold maxV at h
  split at h
  · obtain ⟨v, w, rfl, h1, h2⟩ := two_rep hr
    unfold RepV at h1 h2
    subst h1 h2
    exact ⟨_, _, rfl, h.same hS (by unfold rV RepV; rfl)⟩
  · exact h.elim
theorem c_min (hc : X.calm = true) : CallR X (.builtin "min") (tN X.K cA W (rV X.K) minV) := CallR.imp (call_min2 hc) fun xs H Q h => by
  obtain ⟨ρ, S, ds, hS, hr, h⟩ := h
  unfold minV at h
  split at h
  · obtain ⟨v, w, rfl, h1, h2⟩ := two_rep hr
    unfold RepV at h1 h2
    subst h1 h2
    exact ⟨_, _, rfl, h.same hS (by unfold rV RepV; rfl)⟩
  · exact h.elim
theorem c_int : CallR X (.type "int") (tN X.K cA W (rV X.K) intV) := CallR.imp call_int1 fun xs H Q h => by
  obtain ⟨ρ, S, ds, hS, hr, h⟩ := h
  unfold intV at h
  split at h
  · obtain ⟨v, rfl, h1⟩ := one_rep hr
    unfold RepV at h1
    subst h1
    exact .inl ⟨_, rfl, h.same hS (by unfold rV RepV; rfl)⟩
  · obtain ⟨v, rfl, h1⟩ := one_rep hr
    unfold RepV at h1
    subst h1
    exact .inr ⟨_, rfl, h.same hS (by unfold rV RepV; rfl)⟩
  · exact h.elim
theorem c_ord : CallR X (.builtin "ord") (tN X.K cA W (rV X.K) ordV) := CallR.imp call_ord fun xs H Q h => by
  obtain ⟨ρ, S, ds, hS, hr, h⟩ := h
  unfold ordV at h
  split at h
  · split at h
    · rename_i hz
      obtain ⟨v, rfl, h1⟩ := one_rep hr
      unfold RepV at h1
      subst h1
      exact ⟨_, rfl, hz, h.same hS (by unfold rV RepV; rfl)⟩
    · exact h.elim
  · exact h.elim
theorem c_str : CallR X (.type "str") (tN X.K cA W (rV X.K) strV) := CallR.imp call_str_int fun xs H Q h => by
  obtain ⟨ρ, S, ds, hS, hr, h⟩ := h
  unfold strV at h
  split at h
  · split at h
    · rename_i hz
      obtain ⟨v, rfl, h1⟩ := one_rep hr
      unfold RepV at h1
      subst h1
      exact ⟨_, rfl, hz, h.same hS (by unfold rV RepV; rfl)⟩
    · exact h.elim
  · exact h.elim
theorem keys_rep : ∀ {kvs : List (Key × D)} {ps : List (Key × V)}, RepP K ρ H kvs ps → RepVs K ρ H (kvs.map fun kv => match kv.1 with | .inl i => .int i | .inr x => .str x) (ps.map fun kv => kV kv.1)
  | [], ps, h => by unfold RepP at h; rw [h]; exact .nil
  | (k, x) :: r, ps, h => by
    unfold RepP at h
    obtain ⟨v, q, rfl, _, h2⟩ := h
    rw [List.map_cons, List.map_cons]
    refine .cons ?_ (keys_rep h2)
    cases k <;> (unfold RepV; rfl)
theorem c_list (hc : X.calm = true) : CallR X (.type "list") (tN X.K cA W (rNew X.K) listV) := CallR.imp ((call_list_of (X := X)).or (call_list_dK hc)) fun xs H Q h => by
  obtain ⟨ρ, S, ds, hS, hr, h⟩ := h
  unfold listV at h
  split at h
  · obtain ⟨v, rfl, h1⟩ := one_rep hr
    split at h
    · rename_i ys e
      obtain ⟨a, vs, rfl, h2, h3⟩ := seq_rep hS h1 e
      exact .inl ⟨a, vs, rfl, h2, fun p hp => After.fresh h hS hp h3⟩
    · split at h
      · split at h
        · rename_i kvs e
          obtain ⟨a, ps, rfl, _, h2, h3⟩ := rdct_rep hS h1 e
          exact .inr ⟨a, ps, rfl, h2, fun p hp => After.fresh h hS hp (keys_rep h3)⟩
        · exact h.elim
      · exact h.elim
  · exact h.elim
theorem c_tupV : CallR X (.type "tuple") (tN X.K cA W (rV X.K) tupV) := CallR.imp call_tuple_of fun xs H Q h => by
  obtain ⟨ρ, S, ds, hS, hr, h⟩ := h
  unfold tupV at h
  split at h
  · obtain ⟨v, rfl, h1⟩ := one_rep hr
    have h1' := h1
    unfold RepV at h1
    obtain ⟨a, vs, rfl, h2, h3⟩ := h1
    exact ⟨a, vs, rfl, .inr ⟨h2, h.same hS h1'⟩⟩
  · obtain ⟨v, rfl, h1⟩ := one_rep hr
    split at h
    · rename_i ys e
      obtain ⟨a, vs, rfl, h2, h3⟩ := lst_rep hS h1 e
      exact ⟨a, vs, rfl, .inl ⟨h2, fun p hp => After.tup h hS hp h3⟩⟩
    · exact h.elim
  · exact h.elim
end
end ML

set_option Elab.async false
set_option linter.all false
set_option maxRecDepth 100000
set_option autoImplicit false
/-! ML6: kinds, items, slices, stores, fields, methods of what is built in. -/
namespace ML
open PySem PySem.Spec L2

/-! ### kinds -/
def kindO (S : Store) : D → Option String
  | .non => some "NoneType"
  | .bl _ => some "bool"
  | .int _ => some "int"
  | .str _ => some "str"
  | .tup _ => some "tuple"
  | .lis _ => some "list"
  | .ref n => match S[n]? with
    | some (.lst _) => some "list"
    | some (.dct _) => some "dict"
    | some (.dlk _) => some "dict"
    | _ => none
  | .exn _ => none
def isKind (T t : String) : Bool := t == T || (T == "int" && t == "bool")
def isE (T : String) (m : ME) : MB := fun l S => (m l S).bind fun d S1 => match kindO S1 d with
  | some t => .ok (isKind T t) S1
  | none => .bad
def kinds : List String := ["NoneType", "bool", "int", "str", "tuple", "list", "dict"]
/-- what the model says of two built-in classes -/
def KindOk (T : String) : Prop := ∀ t ∈ kinds, kitB t T = some (isKind T t)
theorem ok_str : KindOk "str" := by unfold KindOk kinds; decide +kernel
theorem ok_int : KindOk "int" := by unfold KindOk kinds; decide +kernel
theorem ok_bool : KindOk "bool" := by unfold KindOk kinds; decide +kernel
theorem ok_tuple : KindOk "tuple" := by unfold KindOk kinds; decide +kernel
theorem ok_list : KindOk "list" := by unfold KindOk kinds; decide +kernel
theorem ok_dict : KindOk "dict" := by unfold KindOk kinds; decide +kernel
section
variable {X : Cx} {cA : Nat → Addr} {W : XK} {K : PySem.W.Frag} {ρ : List Addr} {H : Hp} {S : Store}
theorem kind_rep (hS : Reps K cA ρ H S) {d : D} {v : V} {t : String} (hv : RepV K ρ H d v) (h : kindO S d = some t) : TyX K H v (.type t) ∧ t ∈ kinds := by
  unfold kindO at h
  cases d with
  | non => cases h; unfold RepV at hv; subst hv; exact ⟨.base .non, by decide⟩
  | bl b => cases h; unfold RepV at hv; subst hv; exact ⟨.base (.bl b), by decide⟩
  | int b => cases h; unfold RepV at hv; subst hv; exact ⟨.base (.int b), by decide⟩
  | str b => cases h; unfold RepV at hv; subst hv; exact ⟨.base (.str b), by decide⟩
  | tup xs =>
    cases h
    unfold RepV at hv
    obtain ⟨a, vs, rfl, h1, h2⟩ := hv
    refine ⟨?_, by decide⟩
    rcases h1 with (h1 | ⟨o, h1⟩) | ⟨o, its, n, h1, h3, _⟩
    · exact .base (.tup h1)
    · exact .fTuple h1
    · exact .kTuple h1 h3
  | lis xs =>
    cases h
    unfold RepV at hv
    obtain ⟨a, vs, rfl, h1, h2⟩ := hv
    refine ⟨?_, by decide⟩
    rcases h1 with ⟨o, h1⟩ | ⟨o, its, n, h1, h3, _⟩
    · exact .base (.frz h1)
    · exact .kList h1 h3
  | ref n =>
    simp only at h
    split at h
    · rename_i xs e
      cases h
      obtain ⟨a, rfl, _, vs, h1, _⟩ := ref_rep hS hv e
      exact ⟨.base (.lst h1), by decide⟩
    · rename_i xs e
      cases h
      obtain ⟨a, rfl, _, vs, h1, _⟩ := ref_rep hS hv e
      exact ⟨.base (.dK h1), by decide⟩
    · rename_i xs e
      cases h
      obtain ⟨a, rfl, _, o, vs, h1, _⟩ := ref_rep hS hv e
      exact ⟨.fDict h1, by decide⟩
    · cases h
  | exn a => cases h
variable {pos p0 p1 : Pos} {e : Expr} {m : ME} {x : Str} {T : String}
/-- isinstance(e, T) -/
theorem misi (hT : KindOk T) (ha : PE X e (tE X.K cA W m)) (hg : Gl X "isinstance") (hm : X.mg "isinstance" = none) (hg2 : Gl X x) (hm2 : X.mg x = none) (hv2 : bootBuiltins x = some (.type T)) (hv : bootBuiltins "isinstance" = some (.builtin "isinstance") := by decide +kernel) (hn2 : x ≠ "__name__" := by decide) (hdb2 : (x == ("__debug__" : Str)) = false := by decide)
    (hs2 : starEach [(.Name x p1 : Expr)] X.env = (false, eval (.Name x p1) X.env) :: starEach [] X.env := by rfl) (hs : starEach [e, .Name x p1] X.env = (false, eval e X.env) :: starEach [.Name x p1] X.env := by rfl)
    (hpl : (backTo pos (starEach [(.Name x p1 : Expr)] X.env)).any (·.1) = false := by rfl) : PE X (.Call (.Name "isinstance" p0) [e, .Name x p1] [] pos) (tE X.K cA W (toV (isE T m))) :=
  (pe_callB call_isi hg hm hv (pa_cons ha (pa_cons (pe_bltn (v := .ty T) hg2 hm2 hv2 rfl hn2 hdb2) pa_nil hs2) hs) (by decide) (by decide) hs hpl).imp fun σ H Q h => by
    have h' := bind1 (rep1 := rV X.K) st_Id (tE_toV h)
    refine tG.imp h' fun v H1 h => ?_
    obtain ⟨ρ, S, d, hS, hr, h⟩ := h
    split at h
    · rename_i t et
      obtain ⟨h1, h2⟩ := kind_rep hS hr et
      exact ⟨v, .ty T, .type t, .type T, isKind T t, rfl, .ty T, h1, kit_ty (hT t h2), After.same (Q := fun b H' => Q (.bl b) H') (rep := rId) h hS rfl⟩
    · exact h.elim
end

/-! ### items -/
def ixO (S : Store) (d e : D) : Option D := match e with
  | .int i => match d with
    | .str z => if z.length ≤ sizeLine then (atI z.cps.toList i).map fun c => .str ⟨#[c]⟩ else none
    | .tup xs => atI xs i
    | .lis xs => atI xs i
    | .ref n => match S[n]? with
      | some (.lst xs) => atI xs i
      | some (.dct kvs) => dLook kvs (.inl i)
      | some (.dlk kvs) => dLook kvs (.inl i)
      | _ => none
    | _ => none
  | .str x => match d with
    | .ref n => match kvAt S n with
      | some kvs => dLook kvs (.inr x)
      | none => none
    | _ => none
  | _ => none
def ixD (d e : D) (S : Store) : R D := match ixO S d e with
  | some x => .ok x S
  | none => .bad
section
variable {X : Cx} {cA : Nat → Addr} {W : XK} {K : PySem.W.Frag} {ρ : List Addr} {H : Hp} {S : Store}
theorem atI_rep {xs : List D} {vs : List V} (h : RepVs K ρ H xs vs) {i : Int} {d : D} (e : atI xs i = some d) : ∃ v, atI vs i = some v ∧ RepV K ρ H d v := by
  unfold atI at e ⊢
  rw [RepVs.length h]
  cases q : ixN xs.length i with
  | none => rw [q] at e; cases e
  | some j =>
    rw [q] at e
    exact RepVs.get h j d e
theorem ix_dict (hu : X.A.units + 1 < cLine) : IxR X (fun x y H Q => ∃ a v, x = .ref a ∧ DGet H a y (some v) ∧ Q v H) := by
  intro value slice pins s σ H x y v u Q I rx ry h hs
  obtain ⟨a, z, rfl, g, q⟩ := h
  obtain rfl : v = Value.ref a := rx
  exact PyProof.Rows.tail_any (dict_typeIs I g) PySem.F.slot_dict_getitem.lookup (d_getItem hu I g ry fun w' s3 I3 rw' => ⟨z, H, I3, rw', q⟩) hs
theorem IxR.imp {r r' : R2} (h : IxR X r) (i : ∀ x y H Q, r' x y H Q → r x y H Q) : IxR X r' := fun value slice pins s σ H x y v u Q I rx ry q hs => h value slice pins s σ H x y v u Q I rx ry (i _ _ _ _ q) hs
theorem ix_M (hu : X.A.units + 1 < cLine) : IxR X (t2 X.K cA W (rV X.K) ixD) := IxR.imp ((ix_seq (X := X)).or (ix_dict hu)) fun x y H Q h => by
  obtain ⟨ρ, S, d, e, hS, hd, he, h⟩ := h
  unfold ixD at h
  split at h
  · rename_i z hz
    unfold ixO at hz
    cases e with
    | int i =>
      unfold RepV at he
      subst he
      cases d with
      | str w =>
        simp only at hz
        split at hz
        · rename_i hl
          unfold RepV at hd
          subst hd
          obtain ⟨c, hc, rfl⟩ := Option.map_eq_some_iff.mp hz
          exact .inl (.inr (.inr ⟨w, i, c, rfl, rfl, hl, hc, h.same hS (by unfold rV RepV; rfl)⟩))
        · cases hz
      | tup xs =>
        unfold RepV at hd
        obtain ⟨a, vs, rfl, h1, h2⟩ := hd
        obtain ⟨v, hv, rv⟩ := atI_rep h2 hz
        exact .inl (.inr (.inl ⟨a, vs, i, v, rfl, rfl, h1, hv, h.same hS rv⟩))
      | lis xs =>
        unfold RepV at hd
        obtain ⟨a, vs, rfl, h1, h2⟩ := hd
        obtain ⟨v, hv, rv⟩ := atI_rep h2 hz
        exact .inl (.inl ⟨a, vs, i, v, rfl, rfl, h1.sq, hv, h.same hS rv⟩)
      | ref n =>
        simp only at hz
        have dic : ∀ {kvs : List (Key × D)}, kvAt S n = some kvs → dLook kvs (.inl i) = some z → ∃ a v, x = .ref a ∧ DGet H a (.int i) (some v) ∧ Q v H := fun {kvs} ek el => by
          obtain ⟨a, ps, rfl, _, h1, h2⟩ := rkv_rep hS hd ek
          have q := look_rep (.inl i) h2
          rw [el] at q
          obtain ⟨v, hv, rv⟩ := q
          exact ⟨a, v, rfl, .inl ⟨ps, .inl i, h1, rfl, hv.symm⟩, h.same hS rv⟩
        split at hz
        · rename_i xs e1
          obtain ⟨a, vs, rfl, _, h1, h2⟩ := rlst_rep hS hd (lstAt_of e1)
          obtain ⟨v, hv, rv⟩ := atI_rep h2 hz
          exact .inl (.inl ⟨a, vs, i, v, rfl, rfl, SqL.of h1, hv, h.same hS rv⟩)
        · rename_i kvs e1
          exact .inr (dic (by unfold kvAt; rw [e1]) hz)
        · rename_i kvs e1
          exact .inr (dic (by unfold kvAt; rw [e1]) hz)
        · cases hz
      | _ => cases hz
    | str w =>
      unfold RepV at he
      subst he
      cases d with
      | ref n =>
        simp only at hz
        split at hz
        · rename_i kvs ek
          obtain ⟨a, ps, rfl, _, h1, h2⟩ := rkv_rep hS hd ek
          have q := look_rep (.inr w) h2
          rw [hz] at q
          obtain ⟨v, hv, rv⟩ := q
          exact .inr ⟨a, v, rfl, .inl ⟨ps, .inr w, h1, rfl, hv.symm⟩, h.same hS rv⟩
        · cases hz
      | _ => cases hz
    | _ => cases hz
  · exact h.elim
variable {pos : Pos} {a b : Expr} {m n : ME}
theorem mix (hu : X.A.units + 1 < cLine) (ha : PE X a (tE X.K cA W m)) (hb : PE X b (tE X.K cA W n)) (hs : PlainIx b := by exact fun _ _ => rfl) : PE X (.Subscript a b pos) (tE X.K cA W (binE ixD m n)) :=
  (pe_ix (ix_M hu) ha hb hs).imp fun σ H Q h => bind2 st_V mo_V h
end

/-! ### slices -/
abbrev MO := Loc → Store → R (Option Int)
def noO : MO := fun _ S => .ok none S
def someO (m : ME) : MO := fun l S => (m l S).bind fun d S1 => match intO d with
  | some i => .ok (some i) S1
  | none => .bad
def cutD (xs : List D) (lo hi : Option Int) : List D := (xs.drop (HT.sIx xs.length 0 lo)).take (HT.sIx xs.length xs.length hi - HT.sIx xs.length 0 lo)
def sliceD (d : D) (lo hi : Option Int) (S : Store) : R D := match d with
  | .str z => if z.length ≤ sizeLine then .ok (.str (cutS z lo hi)) S else .bad
  | .tup xs => .ok (.tup (cutD xs lo hi)) S
  | _ => match lstOf S d with
    | some xs => newC (.lst (cutD xs lo hi)) S
    | none => .bad
def sliceE (m : ME) (lo hi : MO) : ME := fun l S => (m l S).bind fun d S1 => (lo l S1).bind fun i S2 => (hi l S2).bind (sliceD d i)
section
variable {X : Cx} {cA : Nat → Addr} {W : XK} {K : PySem.W.Frag} {ρ : List Addr} {H : Hp} {S : Store}
theorem SlR.imp {r r' : V → Option Int → Option Int → Hp → VK → Prop} (h : SlR X r) (i : ∀ x lo hi H Q, r' x lo hi H Q → r x lo hi H Q) : SlR X r' := fun pins s σ H x v vl vu lo hi sl Q I rx hs pl pu q => h pins s σ H x v vl vu lo hi sl Q I rx hs pl pu (i _ _ _ _ _ q)
theorem cut_rep {xs : List D} {vs : List V} (h : RepVs K ρ H xs vs) (lo hi : Option Int) : RepVs K ρ H (cutD xs lo hi) (cutV vs lo hi) := by
  unfold cutD cutV
  rw [RepVs.length h]
  exact (h.drop _).take _
theorem cut_all {xs : List D} {lo hi : Option Int} (h : HT.sIx xs.length 0 lo = 0 ∧ HT.sIx xs.length xs.length hi = xs.length) : cutD xs lo hi = xs := by
  unfold cutD
  rw [h.1, h.2, List.drop_zero, Nat.sub_zero, List.take_length]
theorem sl_M : SlR X (fun x lo hi H Q => ∃ ρ S d, Reps X.K cA ρ H S ∧ RepV X.K ρ H d x ∧ After X.K cA W ρ H (rV X.K) (sliceD d lo hi S) Q) := SlR.imp ((sl_str (X := X)).or ((sl_tupA (X := X)).or (sl_list (X := X)))) fun x lo hi H Q h => by
  obtain ⟨ρ, S, d, hS, hd, h⟩ := h
  unfold sliceD at h
  split at h
  · split at h
    · rename_i hz
      unfold RepV at hd
      exact .inl ⟨_, hd, hz, h.same hS (by unfold rV RepV; rfl)⟩
    · exact h.elim
  · have hd' := hd
    unfold RepV at hd
    obtain ⟨a, vs, rfl, h1, h2⟩ := hd
    refine .inr (.inl ⟨a, vs, rfl, h1, fun hw => ?_, fun _ p hp => h.tup hS hp (cut_rep h2 lo hi)⟩)
    rw [RepVs.length h2] at hw
    rw [cut_all hw] at h
    exact h.same hS hd'
  · split at h
    · rename_i xs e
      obtain ⟨a, vs, rfl, h1, h2⟩ := lst_rep hS hd e
      exact .inr (.inr ⟨a, vs, rfl, h1, fun p hp => h.new hS hp ⟨_, upd_same, (cut_rep h2 lo hi).ext (Ext.new hp)⟩⟩)
    · exact h.elim
theorem PO.imp {e : Option Expr} {t t' : TO} (h : PO X e t) (i : ∀ σ H Q, t' σ H Q → t σ H Q) : PO X e t' := ⟨fun pins s σ H Q I q => h.run pins s σ H Q I (i σ H Q q)⟩
abbrev tO (K : PySem.W.Frag) (cA : Nat → Addr) (W : XK) (m : MO) : TO := tG K cA W rId m
variable {pos p2 : Pos} {e : Expr} {lo hi : Option Expr} {m : ME} {n o : MO}
theorem ono : PO X none (tO X.K cA W noO) := PO.imp po_none fun σ H Q h => by
  obtain ⟨ρ, S, l, hS, hl, h⟩ := h
  exact After.same (rep := rId) h hS rfl
theorem osome (h : PE X e (tE X.K cA W m)) : PO X (some e) (tO X.K cA W (someO m)) := PO.imp (po_some h) fun σ H Q h => (bind1 (rep1 := rV X.K) st_Id h).imp fun v H1 h => by
  obtain ⟨ρ, S, d, hS, hr, h⟩ := h
  split at h
  · rename_i i e
    cases d with
    | int j => cases e; unfold rV RepV at hr; exact ⟨_, hr, After.same (rep := rId) h hS rfl⟩
    | _ => cases e
  · exact h.elim
theorem mslice (he : PE X e (tE X.K cA W m)) (hl : PO X lo (tO X.K cA W n)) (hh : PO X hi (tO X.K cA W o)) : PE X (.Subscript e (.Slice lo hi none p2) pos) (tE X.K cA W (sliceE m n o)) :=
  (pe_slice sl_M he hl hh).imp fun σ H Q h => by
    refine tG.imp (bind3 (rep1 := rV X.K) (rep2 := rId) (rep3 := rId) st_V mo_V mo_Id h) fun x H1 ha => tG.imp ha fun i H2 hb => tG.imp hb fun j H3 hc => ?_
    obtain ⟨ρ, S, d, i', j', hS, h1, h2, h3, hd⟩ := hc
    subst h2 h3
    exact ⟨ρ, S, d, hS, h1, hd⟩
end

/-! ### stores -/
def setO (S : Store) (o i v : D) : Option Store := match o with
  | .ref n => match S[n]? with
    | some (.lst xs) => match i with
      | .int k => (ixN xs.length k).map fun j => S.set n (.lst (xs.set j v))
      | _ => none
    | some (.dct kvs) => match keyO i with
      | some k => if kvs.length < sizeLine then some (S.set n (.dct (dPut kvs k v))) else none
      | none => none
    | _ => none
  | _ => none
section
variable {X : Cx} {cA : Nat → Addr} {W : XK} {K : PySem.W.Frag} {ρ : List Addr} {H : Hp} {S : Store}
theorem PSet.or {t t' : TSet} (h : PSet X t) (h' : PSet X t') : PSet X (fun o i v H Q => t o i v H Q ∨ t' o i v H Q) := fun pins s σ H o i v ov iv u Q I ro ri rv q => by
  rcases q with q | q
  · exact h pins s σ H o i v ov iv u Q I ro ri rv q
  · exact h' pins s σ H o i v ov iv u Q I ro ri rv q
theorem PSet.imp {t t' : TSet} (h : PSet X t) (i : ∀ o i v H Q, t' o i v H Q → t o i v H Q) : PSet X t' := fun pins s σ H o j v ov iv u Q I ro ri rv q => h pins s σ H o j v ov iv u Q I ro ri rv (i _ _ _ _ _ q)
theorem put_rep {k : Key} {d : D} {v : V} (hv : RepV K ρ H d v) {kvs : List (Key × D)} {ps : List (Key × V)} (h : RepP K ρ H kvs ps) : RepP K ρ H (dPut kvs k d) (putK ps k v) := by
  have any_eq : ∀ {kvs : List (Key × D)} {ps : List (Key × V)}, RepP K ρ H kvs ps → (kvs.any fun kv => decide (kv.1 = k)) = (ps.any fun kv => decide (kv.1 = k)) := by
    intro kvs
    induction kvs with
    | nil => intro ps h; unfold RepP at h; rw [h]; rfl
    | cons x r ih =>
      intro ps h
      obtain ⟨j, y⟩ := x
      unfold RepP at h
      obtain ⟨w, q, rfl, _, h2⟩ := h
      rw [List.any_cons, List.any_cons, ih h2]
  have map_rep : ∀ {kvs : List (Key × D)} {ps : List (Key × V)}, RepP K ρ H kvs ps → RepP K ρ H (kvs.map fun kv => if kv.1 = k then (kv.1, d) else kv) (ps.map fun kv => if kv.1 = k then (kv.1, v) else kv) := by
    intro kvs
    induction kvs with
    | nil => intro ps h; unfold RepP at h; rw [h]; unfold RepP; rfl
    | cons x r ih =>
      intro ps h
      obtain ⟨j, y⟩ := x
      unfold RepP at h
      obtain ⟨w, q, rfl, h1, h2⟩ := h
      rw [List.map_cons, List.map_cons]
      by_cases e : j = k
      · simp only [e, if_true]
        unfold RepP
        exact ⟨v, _, rfl, hv, ih h2⟩
      · simp only [e, if_false]
        unfold RepP
        exact ⟨w, _, rfl, h1, ih h2⟩
  have app_rep : ∀ {kvs : List (Key × D)} {ps : List (Key × V)}, RepP K ρ H kvs ps → RepP K ρ H (kvs ++ [(k, d)]) (ps ++ [(k, v)]) := by
    intro kvs
    induction kvs with
    | nil => intro ps h; unfold RepP at h; rw [h]; exact ⟨v, [], rfl, hv, by unfold RepP; rfl⟩
    | cons x r ih =>
      intro ps h
      obtain ⟨j, y⟩ := x
      unfold RepP at h
      obtain ⟨w, q, rfl, h1, h2⟩ := h
      exact ⟨w, _, rfl, h1, ih h2⟩
  unfold dPut putK
  rw [any_eq h]
  split
  · exact map_rep h
  · exact app_rep h
theorem set_M (hu : X.A.units + 1 < cLine) : PSet X (fun o i v H Q => ∃ ρ S d e f, Reps X.K cA ρ H S ∧ RepV X.K ρ H d o ∧ RepV X.K ρ H e i ∧ RepV X.K ρ H f v ∧ ∃ S', setO S d e f = some S' ∧ ∀ H', Ext ρ H ρ H' → Reps X.K cA ρ H' S' → Q H') :=
  PSet.imp (PSet.or (set_list (X := X)) (set_dict hu)) fun o i v H Q h => by
    obtain ⟨ρ, S, d, e, f, hS, hd, he, hf, S', hs, q⟩ := h
    unfold setO at hs
    cases d with
    | ref n =>
      simp only at hs
      split at hs
      · rename_i xs e1
        cases e with
        | int k =>
          simp only at hs
          obtain ⟨j, hj, rfl⟩ := Option.map_eq_some_iff.mp hs
          obtain ⟨a, vs, rfl, ha, h1, h2⟩ := rlst_rep hS hd (lstAt_of e1)
          unfold RepV at he
          subst he
          have E : Ext ρ H ρ (upd H a (.lst (vs.set j v))) := Ext.write ha h1 True.intro
          refine .inl ⟨a, vs, k, j, rfl, rfl, h1, by rw [RepVs.length h2]; exact hj, q _ E (hS.write ha h1 True.intro ⟨_, upd_same, ?_⟩)⟩
          exact (RepVs.set hf j h2).ext E
        | _ => cases hs
      · rename_i kvs e1
        split at hs
        · rename_i k ek
          split at hs
          · rename_i hl
            cases hs
            obtain ⟨a, ps, rfl, ha, h1, h2⟩ := rdct_rep hS hd (dctAt_of e1)
            have := key_rep ek he
            subst this
            have E : Ext ρ H ρ (upd H a (.dK (putK ps k v))) := Ext.write ha h1 True.intro
            refine .inr ⟨a, _, rfl, DPut.k (k := k) (v := v) h1 (by rw [c_lenV.len_repP h2]; exact hl), q _ E (hS.write ha h1 True.intro ⟨_, upd_same, ?_⟩)⟩
            exact (put_rep hf h2).ext E
          · cases hs
        · cases hs
      · cases hs
    | _ => cases hs
end

/-! ### fields -/
def fldE (cs : List Nat) (f : Str) (m : ME) : ME := fun l S => (m l S).bind fun d S1 => match d with
  | .ref n => match insAt S1 n with
    | some (c, fs) => if c ∈ cs then (match fs.lookup f with
      | some x => .ok x S1
      | none => .bad) else .bad
    | none => .bad
  | _ => .bad
section
variable {X : Cx} {cA : Nat → Addr} {W : XK} {K : PySem.W.Frag} {ρ : List Addr} {H : Hp} {S : Store}
theorem fld_rep {f : Str} : ∀ {fs : List (Str × D)} {ps : List (Str × V)} {d : D}, RepP K ρ H fs ps → fs.lookup f = some d → ∃ v, ps.lookup f = some v ∧ RepV K ρ H d v
  | [], ps, d, h, e => by cases e
  | (g, x) :: r, ps, d, h, e => by
    unfold RepP at h
    obtain ⟨w, q, rfl, h1, h2⟩ := h
    cases hg : (f == g) with
    | true => simp only [List.lookup, hg] at e ⊢; cases e; exact ⟨w, rfl, h1⟩
    | false => simp only [List.lookup, hg] at e ⊢; exact fld_rep h2 e
theorem fld_none {f : Str} : ∀ {fs : List (Str × D)} {ps : List (Str × V)}, RepP K ρ H fs ps → fs.lookup f = none → ps.lookup f = none
  | [], ps, h, e => by unfold RepP at h; rw [h]; rfl
  | (g, x) :: r, ps, h, e => by
    unfold RepP at h
    obtain ⟨w, q, rfl, h1, h2⟩ := h
    cases hg : (f == g) with
    | true => simp only [List.lookup, hg] at e; cases e
    | false => simp only [List.lookup, hg] at e ⊢; exact fld_none h2 e
variable {pos : Pos} {e : Expr} {m : ME} {f : Str} {cs : List Nat}
theorem mfld (hC : ∀ c ∈ cs, Cls X.K (cA c) ∧ NoAttr X.K (cA c) f) (he : PE X e (tE X.K cA W m)) (hb : attributeBase e f X.env (eval e X.env) = eval e X.env := by rfl) : PE X (.Attribute e f pos) (tE X.K cA W (fldE cs f m)) :=
  (pe_fld he hb).imp fun σ H Q h => (bind1 (rep1 := rV X.K) st_V h).imp fun v H1 h => by
    obtain ⟨ρ, S, d, hS, hr, h⟩ := h
    split at h
    · split at h
      · rename_i c fs e1
        split at h
        · rename_i hc
          split at h
          · rename_i y e2
            obtain ⟨a, dx, ps, rfl, _, h1, h2⟩ := rins_rep hS hr e1
            obtain ⟨w, hw, rw'⟩ := fld_rep h2 e2
            exact ⟨a, cA c, dx, ps, w, rfl, h1, (hC c hc).1, (hC c hc).2, hw, h.same hS rw'⟩
          · exact h.elim
        · exact h.elim
      · exact h.elim
    · exact h.elim
end

/-! ### methods of lists and texts -/
def tM2 (K : PySem.W.Frag) (cA : Nat → Addr) (W : XK) (f : D → List D → Store → R D) : V → List V → Hp → VK → Prop := fun x xs H Q =>
  ∃ ρ S d ds, Reps K cA ρ H S ∧ RepV K ρ H d x ∧ RepVs K ρ H ds xs ∧ After K cA W ρ H (rV K) (f d ds S) Q
def lmE (f : D → List D → Store → R D) (m : ME) (n : MA) : ME := fun l S => (m l S).bind fun d S1 => if (lstOf S1 d).isSome = true then (n l S1).bind (f d) else .bad
def appendM (d : D) (ds : List D) (S : Store) : R D := match d with
  | .ref n => match lstAt S n with
    | some xs => match ds with
      | [x] => if xs.length < sizeLine then .ok .non (S.set n (.lst (xs ++ [x]))) else .bad
      | _ => .bad
    | none => .bad
  | _ => .bad
def popM (d : D) (ds : List D) (S : Store) : R D := match d with
  | .ref n => match lstAt S n with
    | some xs => match ds with
      | [] => match xs[xs.length - 1]? with
        | some x => .ok x (S.set n (.lst xs.dropLast))
        | none => .bad
      | _ => .bad
    | none => .bad
  | _ => .bad
def popAtM (d : D) (ds : List D) (S : Store) : R D := match d with
  | .ref n => match lstAt S n with
    | some xs => match ds with
      | [.int i] => if 0 ≤ i ∧ i < 2 ^ 62 then (match xs[i.toNat]? with
        | some x => .ok x (S.set n (.lst (xs.eraseIdx i.toNat)))
        | none => .bad) else .bad
      | _ => .bad
    | none => .bad
  | _ => .bad
def extendM (d : D) (ds : List D) (S : Store) : R D := match d with
  | .ref n => match lstAt S n with
    | some xs => match ds with
      | [.ref k] => match lstAt S k with
        | some ys => if xs.length + ys.length ≤ sizeLine then .ok .non (S.set n (.lst (xs ++ ys))) else .bad
        | none => .bad
      | _ => .bad
    | none => .bad
  | _ => .bad
def reverseM (d : D) (ds : List D) (S : Store) : R D := match d with
  | .ref n => match lstAt S n with
    | some xs => match ds with
      | [] => .ok .non (S.set n (.lst xs.reverse))
      | _ => .bad
    | none => .bad
  | _ => .bad
def insertM (d : D) (ds : List D) (S : Store) : R D := match d with
  | .ref n => match lstAt S n with
    | some xs => match ds with
      | [.int i, x] => if 0 ≤ i ∧ i < 2 ^ 62 ∧ xs.length < sizeLine then .ok .non (S.set n (.lst (xs.take i.toNat ++ [x] ++ xs.drop i.toNat))) else .bad
      | _ => .bad
    | none => .bad
  | _ => .bad
section
variable {X : Cx} {cA : Nat → Addr} {W : XK} {K : PySem.W.Frag} {ρ : List Addr} {H : Hp} {S : Store}
theorem MtR.imp {id : String} {r r' : V → List V → Hp → VK → Prop} (h : MtR X id r) (i : ∀ x xs H Q, r' x xs H Q → r x xs H Q) : MtR X id r' := fun pins s σ H x xs v us Q I rx rs q => h pins s σ H x xs v us Q I rx rs (i _ _ _ _ q)
/-- a list is written, and something told -/
theorem After.put {n : Nat} {a : Addr} {vs ws : List V} {xs : List D} {d : D} {v : V} {Q : V → Hp → Prop} (h : After K cA W ρ H (rV K) (.ok d (S.set n (.lst xs))) Q) (hS : Reps K cA ρ H S) (ha : ρ[n]? = some a) (h1 : H a = some (.lst vs)) (hx : RepVs K ρ H xs ws) (hd : RepV K ρ H d v) : Q v (upd H a (.lst ws)) := by
  have E : Ext ρ H ρ (upd H a (.lst ws)) := Ext.write ha h1 True.intro
  exact h ρ _ _ E (hS.write ha h1 True.intro ⟨_, upd_same, hx.ext E⟩) (hd.ext E)
theorem rep_non' : RepV K ρ H .non .non := by unfold RepV; rfl
theorem nil_rep {xs : List V} (h : RepVs K ρ H [] xs) : xs = [] := by unfold RepVs at h; exact h
theorem mt_appendM : MtR X "list.append" (tM2 X.K cA W appendM) := MtR.imp mt_append fun x xs H Q h => by
  obtain ⟨ρ, S, d, ds, hS, hd, hds, h⟩ := h
  unfold appendM at h
  split at h
  · split at h
    · rename_i ys e1
      split at h
      · split at h
        · rename_i hz
          obtain ⟨a, vs, rfl, ha, h1, h2⟩ := rlst_rep hS hd e1
          obtain ⟨w, rfl, h3⟩ := one_rep hds
          exact ⟨a, vs, w, rfl, rfl, h1, by rw [RepVs.length h2]; exact hz, h.put hS ha h1 (h2.append (.cons h3 .nil)) rep_non'⟩
        · exact h.elim
      · exact h.elim
    · exact h.elim
  · exact h.elim
theorem RepVs.dropLast {xs : List D} {vs : List V} (h : RepVs K ρ H xs vs) : RepVs K ρ H xs.dropLast vs.dropLast := by
  rw [List.dropLast_eq_take, List.dropLast_eq_take, RepVs.length h]
  exact h.take _
theorem mt_popM : MtR X "list.pop" (tM2 X.K cA W popM) := MtR.imp mt_pop fun x xs H Q h => by
  obtain ⟨ρ, S, d, ds, hS, hd, hds, h⟩ := h
  unfold popM at h
  split at h
  · split at h
    · rename_i ys e1
      split at h
      · split at h
        · rename_i z hz
          obtain ⟨a, vs, rfl, ha, h1, h2⟩ := rlst_rep hS hd e1
          obtain ⟨w, hw, rw'⟩ := RepVs.get h2 _ _ hz
          exact ⟨a, vs, w, rfl, nil_rep hds, h1, by rw [RepVs.length h2]; exact hw, h.put hS ha h1 h2.dropLast rw'⟩
        · exact h.elim
      · exact h.elim
    · exact h.elim
  · exact h.elim
theorem RepVs.eraseIdx : ∀ {xs : List D} {vs : List V} (i : Nat), RepVs K ρ H xs vs → RepVs K ρ H (xs.eraseIdx i) (vs.eraseIdx i)
  | [], vs, i, h => by unfold RepVs at h; subst h; exact .nil
  | x :: xs, vs, i, h => by
    unfold RepVs at h
    obtain ⟨w, r, rfl, h1, h2⟩ := h
    cases i with
    | zero => exact h2
    | succ i => exact .cons h1 (RepVs.eraseIdx i h2)
theorem mt_popAtM : MtR X "list.pop" (tM2 X.K cA W popAtM) := MtR.imp mt_popAt fun x xs H Q h => by
  obtain ⟨ρ, S, d, ds, hS, hd, hds, h⟩ := h
  unfold popAtM at h
  split at h
  · split at h
    · rename_i ys e1
      split at h
      · split at h
        · rename_i hi
          split at h
          · rename_i i _ z hz
            obtain ⟨a, vs, rfl, ha, h1, h2⟩ := rlst_rep hS hd e1
            obtain ⟨w, hw, rw'⟩ := RepVs.get h2 _ _ hz
            obtain ⟨u, rfl, h3⟩ := one_rep hds
            unfold RepV at h3
            subst h3
            have hlt : i.toNat < vs.length := (List.getElem?_eq_some_iff.mp hw).1
            refine ⟨a, vs, i, i.toNat, w, rfl, rfl, h1, by omega, by omega, ?_, hw, h.put hS ha h1 (h2.eraseIdx _) rw'⟩
            exact PySem.StrLaws.seqIndex_nonneg hi.1 (by omega)
          · exact h.elim
        · exact h.elim
      · exact h.elim
    · exact h.elim
  · exact h.elim
theorem mt_extendM : MtR X "list.extend" (tM2 X.K cA W extendM) := MtR.imp mt_extend fun x xs H Q h => by
  obtain ⟨ρ, S, d, ds, hS, hd, hds, h⟩ := h
  unfold extendM at h
  split at h
  · split at h
    · rename_i ys e1
      split at h
      · split at h
        · rename_i zs e2
          split at h
          · rename_i hz
            obtain ⟨a, vs, rfl, ha, h1, h2⟩ := rlst_rep hS hd e1
            obtain ⟨w, rfl, h3⟩ := one_rep hds
            obtain ⟨b, ws, rfl, hb, h4, h5⟩ := rlst_rep hS h3 e2
            exact ⟨a, b, vs, ws, rfl, rfl, h1, h4, by rw [RepVs.length h2, RepVs.length h5]; exact hz, h.put hS ha h1 (h2.append h5) rep_non'⟩
          · exact h.elim
        · exact h.elim
      · exact h.elim
    · exact h.elim
  · exact h.elim
theorem RepVs.reverse {xs : List D} {vs : List V} (h : RepVs K ρ H xs vs) : RepVs K ρ H xs.reverse vs.reverse := by
  induction xs generalizing vs with
  | nil => unfold RepVs at h; subst h; exact .nil
  | cons x xs ih =>
    unfold RepVs at h
    obtain ⟨w, r, rfl, h1, h2⟩ := h
    rw [List.reverse_cons, List.reverse_cons]
    exact (ih h2).append (.cons h1 .nil)
theorem mt_reverseM : MtR X "list.reverse" (tM2 X.K cA W reverseM) := MtR.imp mt_reverse fun x xs H Q h => by
  obtain ⟨ρ, S, d, ds, hS, hd, hds, h⟩ := h
  unfold reverseM at h
  split at h
  · split at h
    · rename_i ys e1
      split at h
      · obtain ⟨a, vs, rfl, ha, h1, h2⟩ := rlst_rep hS hd e1
        exact ⟨a, vs, rfl, nil_rep hds, h1, h.put hS ha h1 h2.reverse rep_non'⟩
      · exact h.elim
    · exact h.elim
  · exact h.elim
theorem mt_insertM : MtR X "list.insert" (tM2 X.K cA W insertM) := MtR.imp mt_insert fun x xs H Q h => by
  obtain ⟨ρ, S, d, ds, hS, hd, hds, h⟩ := h
  unfold insertM at h
  split at h
  · split at h
    · rename_i ys e1
      split at h
      · split at h
        · rename_i i y hz
          obtain ⟨a, vs, rfl, ha, h1, h2⟩ := rlst_rep hS hd e1
          obtain ⟨u, w, rfl, h3, h4⟩ := two_rep hds
          unfold RepV at h3
          subst h3
          exact ⟨a, vs, i, w, rfl, rfl, h1, by rw [RepVs.length h2]; exact hz.2.2, hz.1, by omega, h.put hS ha h1 (((h2.take _).append (.cons h4 .nil)).append (h2.drop _)) rep_non'⟩
        · exact h.elim
      · exact h.elim
    · exact h.elim
  · exact h.elim
variable {o e : Expr} {es : List Expr} {m : ME} {n : MA} {name : Str} {apos cpos : Pos} {id : String} {f : D → List D → Store → R D}
/-- xs.m(e, ..) of a list -/
theorem mlm (slot : Slot "list" name id) (hty : typeOf (.builtin id) = pure (.type "method_descriptor")) (hm : MtR X id (tM2 X.K cA W f)) (ho : PE X o (tE X.K cA W m)) (ha : PA X (e :: es) (tAs X.K cA W n))
    (hbase : attributeBase o name X.env (eval o X.env) = eval o X.env := by rfl)
    (hfew : ((backTo cpos (starEach (e :: es) X.env)).all (fun x => !x.1) && (backToKw cpos (keywordEach [] X.env)).all (fun x => x.1.isSome)
      && decide ((e :: es).length + ([] : List Keyword).length + (if ([] : List Keyword).isEmpty then 0 else 1) < 30)) = true := by rfl)
    (hline : (apos.endLine == cpos.line) = true := by rfl) (hs : starEach (e :: es) X.env = (false, eval e X.env) :: starEach es X.env := by rfl) (hplain : (backTo cpos (starEach es X.env)).any (·.1) = false := by rfl) :
    PE X (.Call (.Attribute o name apos) (e :: es) [] cpos) (tE X.K cA W (lmE f m n)) :=
  (pe_bm PySem.F.plainAttrs_list slot hty hm ho ha hbase hfew hline hs hplain).imp fun σ H Q h => (bind1L (rep1 := rV X.K) st_V h).imp fun v H1 h => by
    obtain ⟨ρ, S, l, d, hS, hl, hr, h⟩ := h
    split at h
    · rename_i hz
      obtain ⟨xs, hx⟩ := Option.isSome_iff_exists.mp hz
      obtain ⟨a, vs, rfl, h1, _⟩ := lst_rep hS hr hx
      refine ⟨.inl ⟨rfl, vs, h1⟩, ρ, S, l, hS, hl, (After.bind (rep := rVs X.K) st_V h).imp fun us H2 h => ?_⟩
      obtain ⟨ρ2, S2, ds, e2, hS2, hr2, h⟩ := h
      exact ⟨ρ2, S2, d, ds, hS2, hr.ext e2, hr2, h⟩
    · exact h.elim
/-- xs.m() of a list -/
theorem mlm0 (slot : Slot "list" name id) (hty : typeOf (.builtin id) = pure (.type "method_descriptor")) (hm : MtR X id (tM2 X.K cA W f)) (ho : PE X o (tE X.K cA W m))
    (hbase : attributeBase o name X.env (eval o X.env) = eval o X.env := by rfl) (hline : (apos.endLine == cpos.line) = true := by rfl) :
    PE X (.Call (.Attribute o name apos) [] [] cpos) (tE X.K cA W (lmE f m nilA)) :=
  (pe_bm0 PySem.F.plainAttrs_list slot hty hm ho hbase hline).imp fun σ H Q h => (bind1L (rep1 := rV X.K) st_V h).imp fun v H1 h => by
    obtain ⟨ρ, S, l, d, hS, hl, hr, h⟩ := h
    split at h
    · rename_i hz
      obtain ⟨xs, hx⟩ := Option.isSome_iff_exists.mp hz
      obtain ⟨a, vs, rfl, h1, _⟩ := lst_rep hS hr hx
      exact ⟨.inl ⟨rfl, vs, h1⟩, ρ, S, d, [], hS, hr, .nil, h⟩
    · exact h.elim
/-- sep.join(a new list of texts) -/
def joinN (m : ME) (n : MA) : ME := fun l S => (m l S).bind fun d S1 => match strO d with
  | some a => (n l S1).bind fun ds S2 => match mapO strO ds with
    | some ys => if (ys.map (·.length)).sum + ys.length * a.length ≤ 16777216 then .ok (.str (Str.join a ys)) S2 else .bad
    | none => .bad
  | none => .bad
theorem mjoin (ho : PE X o (tE X.K cA W m)) (he : PE X e (tNw X.K cA W n)) (hs : starEach [e] X.env = [(false, eval e X.env)] := by rfl) (hbase : attributeBase o "join" X.env (eval o X.env) = eval o X.env := by rfl) (hline : (apos.endLine == cpos.line) = true := by rfl) :
    PE X (.Call (.Attribute o "join" apos) [e] [] cpos) (tE X.K cA W (joinN m n)) :=
  (pe_join ho he hs hbase hline).imp fun σ H Q h => (bind1L (rep1 := rV X.K) st_V h).imp fun v H1 h => by
    obtain ⟨ρ, S, l, d, hS, hl, hr, h⟩ := h
    split at h
    · rename_i a e1
      cases d with
      | str b =>
        cases e1
        unfold rV RepV at hr
        subst hr
        refine ⟨⟨a, rfl⟩, ρ, S, l, hS, hl, (After.bind (rep := rNew X.K) st_V h).imp fun us H2 h => ?_⟩
        obtain ⟨ρ2, S2, ds, e2, hS2, ⟨p, vs, rfl, _, _, h1, h2⟩, h⟩ := h
        split at h
        · rename_i ys e3
          split at h
          · rename_i hz
            have := strs_rep e3 h2
            subst this
            refine ⟨a, p, ys, rfl, rfl, .inl (SqL.of h1), hz, ?_⟩
            rw [show Txt.join a ys = Str.join a ys from PySem.StrLaws.glued_eq_join a ys]
            exact h.same hS2 (by unfold rV RepV; rfl)
          · exact h.elim
        · exact h.elim
      | _ => cases e1
    · exact h.elim
end
end ML

set_option Elab.async false
set_option linter.all false
set_option maxRecDepth 100000
set_option autoImplicit false
/-! ML7: statements, loops, comprehensions. -/
namespace ML
open PySem PySem.Spec L2

inductive Fl where
  | nx | rt (d : D) | bk | ct
inductive FlV where
  | nx | rt (v : V) | bk | ct
abbrev MS := Loc → Store → R (Fl × Loc)
def rS (K : PySem.W.Frag) : Rel (Fl × Loc) (FlV × L2.St) := fun _ ρ H a b => RepL K ρ H a.2 b.2 ∧ match a.1, b.1 with
  | .nx, .nx => True
  | .rt d, .rt v => RepV K ρ H d v
  | .bk, .bk => True
  | .ct, .ct => True
  | _, _ => False
theorem st_S {K : PySem.W.Frag} : Stable (rS K) := fun _ _ _ _ _ _ _ _ _ h => h
def endQ (E : Ends) : FlV × L2.St → Hp → Prop := fun b H => match b.1 with
  | .nx => E.nx b.2 H
  | .rt v => E.rt v H
  | .bk => E.bk b.2 H
  | .ct => E.ct b.2 H
def tS (K : PySem.W.Frag) (cA : Nat → Addr) (W : XK) (m : MS) : TS := fun E σ H => tG K cA W (rS K) m σ H (endQ E)
def rL (K : PySem.W.Frag) : Rel Loc L2.St := fun _ ρ H a b => RepL K ρ H a b
theorem st_L {K : PySem.W.Frag} : Stable (rL K) := fun _ _ _ _ _ _ _ _ _ h => h
/-- a target's reading -/
abbrev MT := D → Loc → Store → R Loc
def tTg (K : PySem.W.Frag) (cA : Nat → Addr) (W : XK) (m : MT) : TG := fun v σ H Q => ∃ ρ S l d, Reps K cA ρ H S ∧ RepL K ρ H l σ ∧ RepV K ρ H d v ∧ After K cA W ρ H (rL K) (m d l S) Q

/-! ### what is done -/
def nilS : MS := fun l S => .ok (.nx, l) S
def thenS (n : MS) (p : Fl × Loc) (S : Store) : R (Fl × Loc) := match p.1 with
  | .nx => n p.2 S
  | _ => .ok p S
def seqS (m n : MS) : MS := fun l S => (m l S).bind (thenS n)
def exprS (m : ME) : MS := fun l S => (m l S).bind fun _ S1 => .ok (.nx, l) S1
def retS (m : ME) : MS := fun l S => (m l S).bind fun d S1 => .ok (.rt d, l) S1
def retN : MS := fun l S => .ok (.rt .non, l) S
def ifS (c : MB) (m n : MS) : MS := fun l S => (c l S).bind fun b S1 => if b = true then m l S1 else n l S1
def breakS : MS := fun l S => .ok (.bk, l) S
def contS : MS := fun l S => .ok (.ct, l) S
def setS (i : Nat) (m : ME) : MS := fun l S => (m l S).bind fun d S1 => .ok (.nx, l.set i (some d)) S1
def asgS (t : MT) (m : ME) : MS := fun l S => (m l S).bind fun d S1 => (t d l S1).bind fun l1 S2 => .ok (.nx, l1) S2
def againS (n : MS) (p : Fl × Loc) (S : Store) : R (Fl × Loc) := match p.1 with
  | .nx => n p.2 S
  | .ct => n p.2 S
  | .bk => .ok (.nx, p.2) S
  | .rt d => .ok (.rt d, p.2) S
def whileS (c : MB) (b : MS) : Nat → MS
  | 0 => fun _ _ => .bad
  | k + 1 => fun l S => (c l S).bind fun t S1 => if t = true then (b l S1).bind (againS (whileS c b k)) else .ok (.nx, l) S1
/-- what is walked: the items, and what must stay -/
abbrev Sn := List D × (Store → Prop)
open Classical in
noncomputable def forL (chk : Store → Prop) (t : MT) (b : MS) : List D → MS
  | [] => fun l S => if chk S then .ok (.nx, l) S else .bad
  | d :: ds => fun l S => if chk S then (t d l S).bind fun l1 S1 => (b l1 S1).bind (againS (forL chk t b ds)) else .bad
noncomputable def forS (src : Loc → Store → R Sn) (t : MT) (b : MS) : MS := fun l S => (src l S).bind fun p S1 => forL p.2 t b p.1 l S1
def nameT (i : Nat) : MT := fun d l S => .ok (l.set i (some d)) S
def namesL : List Nat → List D → Loc → Option Loc
  | [], [], l => some l
  | i :: is, d :: ds, l => namesL is ds (l.set i (some d))
  | _, _, _ => none
def namesT (is : List Nat) : MT := fun d l S => match d with
  | .tup xs => match namesL is xs l with
    | some l1 => .ok l1 S
    | none => .bad
  | _ => .bad
def subT (m n : ME) : MT := fun d l S => (m l S).bind fun o S1 => (n l S1).bind fun i S2 => match setO S2 o i d with
  | some S3 => .ok l S3
  | none => .bad
def putD (f : Str) (v : D) : List (Str × D) → List (Str × D)
  | [] => [(f, v)]
  | (g, x) :: r => if g = f then (g, v) :: r else (g, x) :: putD f v r
def fldS (cs : List Nat) (f : Str) (m : ME) (v : ME) : MS := fun l S => (v l S).bind fun y S1 => (m l S1).bind fun d S2 => match d with
  | .ref n => match insAt S2 n with
    | some (c, fs) => if c ∈ cs ∧ fs.length < 1000 then .ok (.nx, l) (S2.set n (.ins c (putD f y fs))) else .bad
    | none => .bad
  | _ => .bad

section
variable {X : Cx} {cA : Nat → Addr} {W : XK} {pos : Pos} {K : PySem.W.Frag}
theorem RepL.set {ρ : List Addr} {H : Hp} {l : Loc} {σ : L2.St} {d : D} {v : V} (h : RepL K ρ H l σ) (hv : RepV K ρ H d v) (i : Nat) : RepL K ρ H (l.set i (some d)) (σ.set i (some v)) := by
  refine ⟨by rw [List.length_set, List.length_set]; exact h.len, fun j e hj => ?_⟩
  by_cases q : i = j
  · subst q
    have hi : i < l.length := by
      have := (List.getElem?_eq_some_iff.mp hj).1
      rwa [List.length_set] at this
    rw [List.getElem?_set_self hi] at hj
    cases hj
    exact ⟨v, List.getElem?_set_self (by rw [← h.len]; exact hi), hv⟩
  · rw [List.getElem?_set_ne q] at hj
    obtain ⟨w, hw, r⟩ := h.at_ j e hj
    exact ⟨w, by rw [List.getElem?_set_ne q]; exact hw, r⟩
variable {m n : MS} {e : Expr} {c : Expr} {me : ME} {p : MB} {st : Stmt} {rest : List Stmt}
theorem snil : PSs X [] (tS X.K cA W nilS) := pss_nil.imp fun E σ H h => by
  obtain ⟨ρ, S, l, hS, hl, h⟩ := h
  exact After.same (b := (FlV.nx, σ)) h hS ⟨hl, trivial⟩
theorem then_of {ρ : List Addr} {H : Hp} {r : R (Fl × Loc)} {E : Ends} (h : After K cA W ρ H (rS K) (r.bind (thenS n)) (endQ E)) : After K cA W ρ H (rS K) r (endQ { E with nx := tS K cA W n E }) := by
  refine (After.bind (rep := rS K) st_S h).imp fun b H1 h => ?_
  obtain ⟨ρ1, S1, a, e1, hS, ⟨hl, hf⟩, h⟩ := h
  obtain ⟨f, l⟩ := a
  obtain ⟨g, σ⟩ := b
  cases f with
  | nx => cases g with
    | nx => exact ⟨ρ1, S1, l, hS, hl, h⟩
    | _ => exact hf.elim
  | rt d => cases g with
    | rt v => exact After.same (rep := rS K) (a := (Fl.rt d, l)) (b := (FlV.rt v, σ)) (Q := endQ E) h hS ⟨hl, hf⟩
    | _ => exact hf.elim
  | bk => cases g with
    | bk => exact After.same (rep := rS K) (a := (Fl.bk, l)) (b := (FlV.bk, σ)) (Q := endQ E) h hS ⟨hl, trivial⟩
    | _ => exact hf.elim
  | ct => cases g with
    | ct => exact After.same (rep := rS K) (a := (Fl.ct, l)) (b := (FlV.ct, σ)) (Q := endQ E) h hS ⟨hl, trivial⟩
    | _ => exact hf.elim
theorem scons (h1 : PS X st (tS X.K cA W m)) (h2 : PSs X rest (tS X.K cA W n)) : PSs X (st :: rest) (tS X.K cA W (seqS m n)) :=
  (pss_cons h1 h2).imp fun E σ H h => by
    obtain ⟨ρ, S, l, hS, hl, h⟩ := h
    exact ⟨ρ, S, l, hS, hl, then_of h⟩
theorem sone (h1 : PS X st (tS X.K cA W m)) : PSs X [st] (tS X.K cA W m) := pss_one h1
theorem spass : PS X (.Pass pos) (tS X.K cA W nilS) := ps_pass.imp fun E σ H h => by
  obtain ⟨ρ, S, l, hS, hl, h⟩ := h
  exact After.same (b := (FlV.nx, σ)) h hS ⟨hl, trivial⟩
theorem sdoc {x : Str} {j : Nat} {pos' : Pos} : PS X (.Expr (.Constant (.str x) j pos) pos') (tS X.K cA W nilS) := ps_doc.imp fun E σ H h => by
  obtain ⟨ρ, S, l, hS, hl, h⟩ := h
  exact After.same (b := (FlV.nx, σ)) h hS ⟨hl, trivial⟩
theorem sbreak : PS X (.Break pos) (tS X.K cA W breakS) := ps_break.imp fun E σ H h => by
  obtain ⟨ρ, S, l, hS, hl, h⟩ := h
  exact After.same (b := (FlV.bk, σ)) h hS ⟨hl, trivial⟩
theorem scont : PS X (.Continue pos) (tS X.K cA W contS) := ps_continue.imp fun E σ H h => by
  obtain ⟨ρ, S, l, hS, hl, h⟩ := h
  exact After.same (b := (FlV.ct, σ)) h hS ⟨hl, trivial⟩
theorem after_L {α β : Type} {rep : Rel α β} {f : Loc → α → Store → R (Fl × Loc)} {mm : Loc → Store → R α} {σ : L2.St} {H : Hp} {E : Ends} (h : tS K cA W (fun l S => (mm l S).bind (f l)) E σ H) :
    tG K cA W rep mm σ H fun x H1 => ∃ ρ S l a, Reps K cA ρ H1 S ∧ RepL K ρ H1 l σ ∧ rep H ρ H1 a x ∧ After K cA W ρ H1 (rS K) (f l a S) (endQ E) := bind1L st_S h
theorem sexpr (he : PE X e (tE X.K cA W me)) (hs : swapsWith e none pos.line X.env = pure false := by rfl) : PS X (.Expr e pos) (tS X.K cA W (exprS me)) :=
  (ps_expr he hs).imp fun E σ H h => (after_L (rep := rV X.K) h).imp fun v H1 h => by
    obtain ⟨ρ, S, l, d, hS, hl, _, h⟩ := h
    exact After.same (b := (FlV.nx, σ)) h hS ⟨hl, trivial⟩
theorem sret (he : PE X e (tE X.K cA W me)) : PS X (.Return (some e) pos) (tS X.K cA W (retS me)) :=
  (ps_ret he).imp fun E σ H h => (after_L (rep := rV X.K) h).imp fun v H1 h => by
    obtain ⟨ρ, S, l, d, hS, hl, hr, h⟩ := h
    exact After.same (b := (FlV.rt v, σ)) h hS ⟨hl, hr⟩
theorem sretN : PS X (.Return none pos) (tS X.K cA W retN) := ps_retN.imp fun E σ H h => by
  obtain ⟨ρ, S, l, hS, hl, h⟩ := h
  exact After.same (b := (FlV.rt .non, σ)) h hS ⟨hl, rep_non'⟩
theorem sif {a b : List Stmt} (hc : PT X c (tT X.K cA W p)) (ha : PSs X a (tS X.K cA W m)) (hb : PSs X b (tS X.K cA W n)) : PS X (.If c a b pos) (tS X.K cA W (ifS p m n)) :=
  (ps_if hc ha hb).imp fun E σ H h => (after_L (rep := rId) h).imp fun t H1 h => by
    obtain ⟨ρ, S, l, d, hS, hl, hr, h⟩ := h
    subst hr
    cases d with
    | true => exact ⟨ρ, S, l, hS, hl, h⟩
    | false => exact ⟨ρ, S, l, hS, hl, h⟩
theorem sset {i : Nat} {x : Str} {pos' : Pos} (hN : X.N.Nodup) (hi : X.N[i]? = some x) (hx : L2.Loc X.env.scope x) (he : PE X e (tE X.K cA W me)) (hs : swapsWith e (some (.Name x pos')) pos.line X.env = pure false := by rfl) (hf : X.fn x = true ∨ X.env.scope.names.lookup x = some .local := by first | exact .inl rfl | exact .inr rfl | assumption) :
    PS X (.Assign [.Name x pos'] e pos) (tS X.K cA W (setS i me)) :=
  (ps_set hN hi hx he hs hf).imp fun E σ H h => (after_L (rep := rV X.K) h).imp fun v H1 h => by
    obtain ⟨ρ, S, l, d, hS, hl, hr, h⟩ := h
    exact After.same (b := (FlV.nx, σ.set i (some v))) h hS ⟨hl.set hr i, trivial⟩
theorem sasg {tg : Expr} {t : MT} (he : PE X e (tE X.K cA W me)) (hg : PG X tg (tTg X.K cA W t)) (hs : swapsWithSole [tg] e pos.line X.env = pure false := by rfl) (hw : swappedStores [tg] e X.env = pure none := by rfl)
    (h1 : (assignEach [tg] X.env).map (·.2) = [assign tg X.env] := by rfl) : PS X (.Assign [tg] e pos) (tS X.K cA W (asgS t me)) :=
  (ps_asg he hg hs hw h1).imp fun E σ H h => (after_L (rep := rV X.K) h).imp fun v H1 h => by
    obtain ⟨ρ, S, l, d, hS, hl, hr, h⟩ := h
    refine ⟨ρ, S, l, d, hS, hl, hr, (After.bind (rep := rL X.K) st_S h).imp fun σ1 H2 h => ?_⟩
    obtain ⟨ρ1, S1, l1, e1, hS1, hl1, h⟩ := h
    exact After.same (b := (FlV.nx, σ1)) h hS1 ⟨hl1, trivial⟩
/-! targets -/
theorem gname {i : Nat} {x : Str} (hN : X.N.Nodup) (hi : X.N[i]? = some x) (hx : L2.Loc X.env.scope x) (hf : X.fn x = true ∨ X.env.scope.names.lookup x = some .local := by first | exact .inl rfl | exact .inr rfl | assumption) : PG X (.Name x pos) (tTg X.K cA W (nameT i)) := by
  refine ⟨fun pins s σ H v u Q I r h => (pg_name hN hi hx hf).run pins s σ H v u Q I r ?_⟩
  obtain ⟨ρ, S, l, d, hS, hl, hr, h⟩ := h
  exact After.same (rep := rL X.K) h hS (hl.set hr i)
/-- the names' own reading -/
def gNms : List Nat → TGs
  | [] => gNil
  | i :: is => gCons (gName i) (gNms is)
theorem names_of {ρ : List Addr} {H : Hp} : ∀ {is : List Nat} {ds : List D} {vs : List V} {l l1 : Loc} {σ : L2.St} {Q : L2.St → Hp → Prop}, namesL is ds l = some l1 → RepVs K ρ H ds vs → RepL K ρ H l σ → (∀ σ1, RepL K ρ H l1 σ1 → Q σ1 H) → gNms is vs σ H Q
  | [], [], vs, l, l1, σ, Q, h, r, hl, q => by
    unfold RepVs at r
    cases h
    exact ⟨r, q σ hl⟩
  | i :: is, d :: ds, vs, l, l1, σ, Q, h, r, hl, q => by
    unfold RepVs at r
    obtain ⟨v, w, rfl, h1, h2⟩ := r
    exact ⟨v, w, rfl, names_of (is := is) h h2 (hl.set h1 i) q⟩
  | [], _ :: _, _, _, _, _, _, h, _, _, _ => nomatch h
  | _ :: _, [], _, _, _, _, _, h, _, _, _ => nomatch h
theorem namesL_len : ∀ {is : List Nat} {ds : List D} {l l1 : Loc}, namesL is ds l = some l1 → ds.length = is.length
  | [], [], _, _, _ => rfl
  | i :: is, d :: ds, l, l1, h => by rw [List.length_cons, List.length_cons, namesL_len (is := is) h]
  | [], _ :: _, _, _, h => nomatch h
  | _ :: _, [], _, _, h => nomatch h
theorem gnames {es : List Expr} {k : Nat} {is : List Nat} (hc : X.calm = true) (h : PGs X es (gNms is)) (hn : (assignEach es X.env).length = is.length := by rfl) (hst : (assignEach es X.env).findIdx? (·.1) = none := by rfl) : PG X (.Tuple es k pos) (tTg X.K cA W (namesT is)) := by
  refine ⟨fun pins s σ H v u Q I r hw => (pg_tup hc h hn hst).run pins s σ H v u Q I r ?_⟩
  obtain ⟨ρ, S, l, d, hS, hl, hr, hq⟩ := hw
  unfold namesT at hq
  cases d with
  | tup xs =>
    simp only at hq
    split at hq
    · rename_i l1 e1
      unfold RepV at hr
      obtain ⟨a, vs, rfl, h1, h2⟩ := hr
      refine ⟨a, vs, rfl, h1, by rw [RepVs.length h2]; exact namesL_len e1, names_of e1 h2 hl fun σ1 hl1 => After.same (rep := rL X.K) hq hS hl1⟩
    · exact hq.elim
  | _ => exact hq.elim
theorem gsub {o i : Expr} {mo mi : ME} (hu : X.A.units + 1 < cLine) (ho : PE X o (tE X.K cA W mo)) (hi : PE X i (tE X.K cA W mi))
    (ha : ∀ v, assign (.Subscript o i pos) X.env v = (do
      let ov ← holding [v] (eval o X.env)
      let iv ← holding [v, ov] (eval i X.env)
      standAt pos
      holding [v, ov, iv] (setItem ov iv v)
      release [v, ov, iv] []) := by intro _; rfl) : PG X (.Subscript o i pos) (tTg X.K cA W (subT mo mi)) := by
  refine ⟨fun pins s σ H v u Q I r hw => (pg_sub ho hi (set_M (cA := cA) hu) ha).run pins s σ H v u Q I r ?_⟩
  obtain ⟨ρ, S, l, d, hS, hl, hr, hq⟩ := hw
  refine ⟨ρ, S, l, hS, hl, (After.bind (rep := rV X.K) st_L hq).imp fun ov H1 h => ?_⟩
  obtain ⟨ρ1, S1, od, e1, hS1, r1, h⟩ := h
  refine ⟨ρ1, S1, l, hS1, hl.ext e1, (After.bind (rep := rV X.K) st_L h).imp fun iv H2 h => ?_⟩
  obtain ⟨ρ2, S2, id, e2, hS2, r2, h⟩ := h
  split at h
  · rename_i S3 e3
    refine ⟨ρ2, S2, od, id, d, hS2, r1.ext e2, r2, (hr.ext e1).ext e2, S3, e3, fun H' e' hS' => ?_⟩
    exact h ρ2 H' σ e' hS' (((hl.ext e1).ext e2).ext e')
  · exact h.elim
theorem putD_rep {ρ : List Addr} {H : Hp} {f : Str} {d : D} {v : V} (hv : RepV K ρ H d v) : ∀ {fs : List (Str × D)} {ps : List (Str × V)}, RepP K ρ H fs ps → RepP K ρ H (putD f d fs) (putF f v ps)
  | [], ps, h => by
    unfold RepP at h
    subst h
    exact ⟨v, [], rfl, hv, by unfold RepP; rfl⟩
  | (g, x) :: r, ps, h => by
    unfold RepP at h
    obtain ⟨w, q, rfl, h1, h2⟩ := h
    unfold putD putF
    by_cases e : g = f
    · rw [if_pos e, if_pos e]; exact ⟨v, q, rfl, hv, h2⟩
    · rw [if_neg e, if_neg e]; exact ⟨w, _, rfl, h1, putD_rep hv h2⟩
theorem len_fs {ρ : List Addr} {H : Hp} : ∀ {fs : List (Str × D)} {ps : List (Str × V)}, RepP K ρ H fs ps → ps.length = fs.length
  | [], ps, h => by unfold RepP at h; rw [h]; rfl
  | (k, x) :: r, ps, h => by
    unfold RepP at h
    obtain ⟨v, q, rfl, _, h2⟩ := h
    rw [List.length_cons, List.length_cons, len_fs h2]
theorem sfld {o value : Expr} {f : Str} {pos' : Pos} {cs : List Nat} {mo mv : ME} (hC : ∀ c ∈ cs, Cls X.K (cA c) ∧ NoAttr X.K (cA c) f) (ho : PE X o (tE X.K cA W mo)) (hv : PE X value (tE X.K cA W mv)) (hs : swapsWith value (some (.Attribute o f pos')) pos.line X.env = pure false := by rfl) :
    PS X (.Assign [.Attribute o f pos'] value pos) (tS X.K cA W (fldS cs f mo mv)) :=
  (ps_fld ho hv hs).imp fun E σ H h => (after_L (rep := rV X.K) h).imp fun y H1 h => by
    obtain ⟨ρ, S, l, d, hS, hl, hr, h⟩ := h
    refine ⟨ρ, S, l, hS, hl, (After.bind (rep := rV X.K) st_S h).imp fun x H2 h => ?_⟩
    obtain ⟨ρ1, S1, o, e1, hS1, r1, h⟩ := h
    split at h
    · split at h
      · rename_i n c fs ei
        split at h
        · rename_i hc
          obtain ⟨a, dx, ps, rfl, ha, h1, h2⟩ := rins_rep hS1 r1 ei
          have EE : Ext ρ1 H2 ρ1 (upd H2 a (.ins (cA c) dx (putF f y ps))) := Ext.write ha h1 True.intro
          refine ⟨a, cA c, dx, ps, rfl, h1, (hC c hc.1).1, (hC c hc.1).2, by rw [len_fs h2]; exact hc.2, ?_⟩
          exact h ρ1 _ (FlV.nx, σ) EE (hS1.write ha h1 True.intro ⟨dx, _, upd_same, (putD_rep (hr.ext e1) h2).ext EE⟩) ⟨((hl.ext e1).ext EE), trivial⟩
        · exact h.elim
      · exact h.elim
    · exact h.elim

/-! ### while -/
theorem again_of {ρ : List Addr} {H : Hp} {r : R (Fl × Loc)} {E : Ends} {N : L2.St → Hp → Prop} (hN : ∀ σ' H', tS K cA W n E σ' H' → N σ' H') (h : After K cA W ρ H (rS K) (r.bind (againS n)) (endQ E)) : After K cA W ρ H (rS K) r (endQ { E with nx := N, ct := N, bk := E.nx }) := by
  refine (After.bind (rep := rS K) st_S h).imp fun b H1 h => ?_
  obtain ⟨ρ1, S1, a, e1, hS, ⟨hl, hf⟩, h⟩ := h
  obtain ⟨f, l⟩ := a
  obtain ⟨g, σ⟩ := b
  cases f with
  | nx => cases g with
    | nx => exact hN σ H1 ⟨ρ1, S1, l, hS, hl, h⟩
    | _ => exact hf.elim
  | rt d => cases g with
    | rt v => exact After.same (rep := rS K) (a := (Fl.rt d, l)) (b := (FlV.rt v, σ)) (Q := endQ E) h hS ⟨hl, hf⟩
    | _ => exact hf.elim
  | bk => cases g with
    | bk => exact After.same (rep := rS K) (a := (Fl.nx, l)) (b := (FlV.nx, σ)) (Q := endQ E) h hS ⟨hl, trivial⟩
    | _ => exact hf.elim
  | ct => cases g with
    | ct => exact hN σ H1 ⟨ρ1, S1, l, hS, hl, h⟩
    | _ => exact hf.elim
theorem swhile {body : List Stmt} {b : MS} (k : Nat) (hp : PassesOwn (model X.prog X.w) X.A X.env X.xe) (hc : PT X c (tT X.K cA W p)) (hb : PSs X body (tS X.K cA W b)) : PS X (.While c body [] pos) (tS X.K cA W (whileS p b k)) :=
  (ps_while hp hc hb).imp fun E σ H h => by
    refine ⟨fun m σ H => tS X.K cA W (whileS p b m) E σ H, ⟨k, h⟩, fun m σ H h => ?_⟩
    cases m with
    | zero => obtain ⟨ρ, S, l, hS, hl, h⟩ := h; exact h.elim
    | succ m =>
      refine (after_L (rep := rId) h).imp fun t H1 h => ?_
      obtain ⟨ρ, S, l, d, hS, hl, hr, h⟩ := h
      subst hr
      cases d with
      | true => exact ⟨fun σ' H' => tS X.K cA W (whileS p b m) E σ' H', fun σ' H' h => ⟨m, Nat.lt_succ_self m, h⟩, ρ, S, l, hS, hl, again_of (fun _ _ h => h) h⟩
      | false => exact After.same (b := (FlV.nx, σ)) h hS ⟨hl, trivial⟩
end

/-! ### what is walked -/
structure SrcOk (K : PySem.W.Frag) (cA : Nat → Addr) (J : It) (ρ1 : List Addr) (H1 : Hp) (p : Sn) : Prop where
  go : ∀ (ρ : List Addr) (H : Hp) (S : Store), Ext ρ1 H1 ρ H → Reps K cA ρ H S → p.2 S → ∀ (i : Nat) (d : D), p.1[i]? = some d → J.go i H ∧ ∀ x H', J.yld i H x H' → Ext ρ H ρ H' ∧ (∀ a ∈ ρ, H' a = H a) ∧ RepV K ρ H' d x
  stop : ∀ (ρ : List Addr) (H : Hp) (S : Store), Ext ρ1 H1 ρ H → Reps K cA ρ H S → p.2 S → J.stop p.1.length H
def rSrc (K : PySem.W.Frag) (cA : Nat → Addr) : Rel Sn It := fun _ ρ H p J => SrcOk K cA J ρ H p
theorem st_Src {K : PySem.W.Frag} {cA : Nat → Addr} : Stable (rSrc K cA) := fun _ _ _ _ _ _ _ _ _ h => h
def tSrc (K : PySem.W.Frag) (cA : Nat → Addr) (W : XK) (m : Loc → Store → R Sn) : TI := tG K cA W (rSrc K cA) m
section
variable {X : Cx} {cA : Nat → Addr} {W : XK} {pos : Pos} {tg iter : Expr} {b : MS} {t : MT} {src : Loc → Store → R Sn}
theorem sfor {body : List Stmt} (hp : PassesOwn (model X.prog X.w) X.A X.env X.xe) (hc : X.calm = true) (hi : PI X tg iter (tSrc X.K cA W src)) (hg : PG X tg (tTg X.K cA W t)) (hb : PSs X body (tS X.K cA W b))
    (hs : ∀ x, foldedSetIterable iter X.env x = pure x := by intro _; rfl) : PS X (.For tg iter body [] pos) (tS X.K cA W (forS src t b)) :=
  (ps_for hp hc hi hg hb hs).imp fun E σ H h => (after_L (rep := rSrc X.K cA) h).imp fun J H1 h => by
    obtain ⟨ρ1, S1, l1, q, hS1, hl1, hJ, h⟩ := h
    obtain ⟨ds, chk⟩ := q
    refine ⟨fun i m σ H => ∃ ρ S l, Ext ρ1 H1 ρ H ∧ Reps X.K cA ρ H S ∧ RepL X.K ρ H l σ ∧ m + i = ds.length ∧ After X.K cA W ρ H (rS X.K) (forL chk t b (ds.drop i) l S) (endQ E), ⟨ds.length, ρ1, S1, l1, Ext.refl _ _, hS1, hl1, by omega, by rw [List.drop_zero]; exact h⟩, fun i m σ H h => ?_⟩
    obtain ⟨ρ, S, l, e1, hS, hl, hm, h⟩ := h
    by_cases hi : i < ds.length
    · have hd : ds.drop i = ds[i] :: ds.drop (i + 1) := List.drop_eq_getElem_cons hi
      rw [hd] at h
      unfold forL at h
      split at h
      · rename_i hk
        obtain ⟨hgo, hy⟩ := hJ.go ρ H S e1 hS hk i ds[i] (List.getElem?_eq_getElem hi)
        refine .inr ⟨hgo, fun σ' H' => ∃ ρ S l, Ext ρ1 H1 ρ H' ∧ Reps X.K cA ρ H' S ∧ RepL X.K ρ H' l σ' ∧ After X.K cA W ρ H' (rS X.K) (forL chk t b (ds.drop (i + 1)) l S) (endQ E), fun σ' H' ⟨ρ', S', l', a1, a2, a3, a4⟩ => ⟨m - 1, by omega, ρ', S', l', a1, a2, a3, by omega, a4⟩, fun x H' y => ?_⟩
        obtain ⟨e2, same, rx⟩ := hy x H' y
        have hS' := hS.other e2 same
        refine ⟨ρ, S, l, ds[i], hS', hl.ext e2, rx, ?_⟩
        have h' := After.back st_S e2 h
        refine (After.bind' (rep := rL X.K) st_S h').imp fun σ2 H2 h => ?_
        obtain ⟨ρ2, S2, l2, e3, hS2, hl2, h⟩ := h
        refine ⟨ρ2, S2, l2, hS2, hl2, ?_⟩
        have e13 := (e1.trans e2).trans e3
        refine (After.bind (rep := rS X.K) st_S h).imp fun bb H3 h => ?_
        obtain ⟨ρ3, S3, a, e4, hS3, ⟨hl3, hf⟩, h⟩ := h
        obtain ⟨f, l3⟩ := a
        obtain ⟨g, σ3⟩ := bb
        cases f with
        | nx => cases g with
          | nx => exact ⟨ρ3, S3, l3, e13.trans e4, hS3, hl3, h⟩
          | _ => exact hf.elim
        | rt d => cases g with
          | rt v => exact After.same (rep := rS X.K) (a := (Fl.rt d, l3)) (b := (FlV.rt v, σ3)) (Q := endQ E) h hS3 ⟨hl3, hf⟩
          | _ => exact hf.elim
        | bk => cases g with
          | bk => exact After.same (rep := rS X.K) (a := (Fl.nx, l3)) (b := (FlV.nx, σ3)) (Q := endQ E) h hS3 ⟨hl3, trivial⟩
          | _ => exact hf.elim
        | ct => cases g with
          | ct => exact ⟨ρ3, S3, l3, e13.trans e4, hS3, hl3, h⟩
          | _ => exact hf.elim
      · exact h.elim
    · have ei : i = ds.length := by omega
      subst ei
      rw [List.drop_length] at h
      unfold forL at h
      split at h
      · rename_i hk
        exact .inl ⟨hJ.stop ρ H S e1 hS hk, After.same (b := (FlV.nx, σ)) h hS ⟨hl, trivial⟩⟩
      · exact h.elim
where
  After.bind' {α β γ δ : Type} {K : PySem.W.Frag} {cA : Nat → Addr} {W : XK} {ρ : List Addr} {H : Hp} {rep : Rel α β} {rep' : Rel γ δ} (st : Stable rep') {r : R α} {f : α → Store → R γ} {Q : δ → Hp → Prop} (h : After K cA W ρ H rep' (r.bind f) Q) :
    After K cA W ρ H rep r fun b H1 => ∃ ρ1 S1 a, Ext ρ H ρ1 H1 ∧ Reps K cA ρ1 H1 S1 ∧ rep H ρ1 H1 a b ∧ After K cA W ρ1 H1 rep' (f a S1) Q := After.bind st h
end
end ML

set_option Elab.async false
set_option linter.all false
set_option maxRecDepth 100000
set_option autoImplicit false
/-! ML8: what is walked, comprehensions, calls, defs. -/
namespace ML
open PySem PySem.Spec L2

/-! ### what is walked -/
def still : Store → Prop := fun _ => True
def signsOf (z : Str) : List D := z.cps.toList.map fun c => .str ⟨#[c]⟩
/-- the items of a value -/
def srcD (d : D) (S : Store) : R Sn := match d with
  | .tup xs => .ok (xs, still) S
  | .lis xs => .ok (xs, still) S
  | .str z => .ok (signsOf z, still) S
  | .ref n => match lstAt S n with
    | some xs => .ok (xs, fun S' => lstAt S' n = some xs) S
    | none => .bad
  | _ => .bad
def srcV (m : ME) : Loc → Store → R Sn := fun l S => (m l S).bind srcD
def srcN (m : MA) : Loc → Store → R Sn := fun l S => (m l S).bind fun ds S1 => .ok (ds, still) S1
def intsFrom (lo : Int) (n : Nat) : List D := (List.range n).map fun i => .int (lo + (i : Nat))
def rng1 (ds : List D) (S : Store) : R Sn := match ds with
  | [.int j] => if -(2 ^ 62) ≤ j ∧ j < 2 ^ 62 then .ok (intsFrom 0 j.toNat, still) S else .bad
  | _ => .bad
def rng2 (ds : List D) (S : Store) : R Sn := match ds with
  | [.int i, .int j] => if -(2 ^ 62) ≤ i ∧ i < 2 ^ 62 ∧ -(2 ^ 62) ≤ j ∧ j < 2 ^ 62 then .ok (intsFrom i (j - i).toNat, still) S else .bad
  | _ => .bad
def srcR1 (m : MA) : Loc → Store → R Sn := fun l S => (m l S).bind rng1
def srcR2 (m : MA) : Loc → Store → R Sn := fun l S => (m l S).bind rng2
section
variable {X : Cx} {cA : Nat → Addr} {W : XK} {pos p0 : Pos} {tg e a b : Expr} {m : ME} {n : MA} {K : PySem.W.Frag}
theorem _root_.L2.PI.imp {X : Cx} {tg e : Expr} {w w' : TI} (h : PI X tg e w) (i : ∀ σ H R, w' σ H R → w σ H R) : PI X tg e w' := ⟨fun pins s σ H R I q => h.run pins s σ H R I (i σ H R q)⟩
theorem _root_.L2.PI.or {X : Cx} {tg e : Expr} {w w' : TI} (h : PI X tg e w) (h' : PI X tg e w') : PI X tg e (fun σ H R => w σ H R ∨ w' σ H R) := ⟨fun pins s σ H R I q => q.elim (h.run pins s σ H R I) (h'.run pins s σ H R I)⟩
theorem ext_self {ρ : List Addr} {H : Hp} : Ext ρ H ρ H ∧ ∀ a ∈ ρ, H a = H a := ⟨Ext.refl _ _, fun _ _ => rfl⟩
/-- a tuple that stands -/
theorem src_tup {ρ : List Addr} {H : Hp} {x : Addr} {vs : List V} {ds : List D} (hs : SqT K H x vs) (hr : RepVs K ρ H ds vs) : SrcOk K cA (Itt K x) ρ H (ds, still) := by
  have len := RepVs.length hr
  refine ⟨fun ρ' H' S e _ _ i d hd => ?_, fun ρ' H' S e _ _ => ⟨vs, SqT.ext e hs, Nat.le_of_eq len⟩⟩
  obtain ⟨v, hv, r⟩ := RepVs.get hr i d hd
  refine ⟨⟨vs, v, SqT.ext e hs, hv⟩, fun y H2 hy => ?_⟩
  obtain ⟨rfl, hy⟩ := hy
  have : vs[i]? = some y := hy vs (SqT.ext e hs)
  rw [hv] at this
  cases this
  exact ⟨ext_self.1, ext_self.2, r.ext e⟩
/-- a list that stands -/
theorem src_lst {ρ : List Addr} {H : Hp} {x : Addr} {ds : List D} {chk : Store → Prop} (hs : ∀ (ρ' : List Addr) (H' : Hp) (S : Store), Ext ρ H ρ' H' → Reps K cA ρ' H' S → chk S → ∃ vs, SqL K H' x vs ∧ RepVs K ρ' H' ds vs) : SrcOk K cA (Itl K x) ρ H (ds, chk) := by
  refine ⟨fun ρ' H' S e hS hk i d hd => ?_, fun ρ' H' S e hS hk => ?_⟩
  · obtain ⟨vs, hq, hr⟩ := hs ρ' H' S e hS hk
    obtain ⟨v, hv, r⟩ := RepVs.get hr i d hd
    refine ⟨⟨vs, v, hq, hv⟩, fun y H2 hy => ?_⟩
    obtain ⟨rfl, hy⟩ := hy
    have : vs[i]? = some y := hy vs hq
    rw [hv] at this
    cases this
    exact ⟨ext_self.1, ext_self.2, r⟩
  · obtain ⟨vs, hq, hr⟩ := hs ρ' H' S e hS hk
    exact ⟨vs, hq, Nat.le_of_eq (RepVs.length hr)⟩
theorem src_str {ρ : List Addr} {H : Hp} {z : Str} : SrcOk K cA (Its z) ρ H (signsOf z, still) := by
  have len : (signsOf z).length = z.cps.size := by simp [signsOf]
  refine ⟨fun ρ' H' S e _ _ i d hd => ?_, fun ρ' H' S e _ _ => Nat.le_of_eq len.symm⟩
  have hi : i < z.cps.size := by rw [← len]; exact (List.getElem?_eq_some_iff.mp hd).1
  refine ⟨hi, fun y H2 hy => ?_⟩
  obtain ⟨rfl, c, hc, rfl⟩ := hy
  refine ⟨ext_self.1, ext_self.2, ?_⟩
  have : d = .str ⟨#[c]⟩ := by
    unfold signsOf at hd
    rw [List.getElem?_map] at hd
    have hc' : z.cps.toList[i]? = some c := by simpa using hc
    rw [hc'] at hd
    exact (Option.some.inj hd).symm
  rw [this]
  unfold RepV
  rfl
theorem src_int {ρ : List Addr} {H : Hp} {lo : Int} {n : Nat} : SrcOk K cA (Itr lo n) ρ H (intsFrom lo n, still) := by
  have len : (intsFrom lo n).length = n := by simp [intsFrom]
  refine ⟨fun ρ' H' S e _ _ i d hd => ?_, fun ρ' H' S e _ _ => Nat.le_of_eq len.symm⟩
  have hi : i < n := by rw [← len]; exact (List.getElem?_eq_some_iff.mp hd).1
  refine ⟨hi, fun y H2 hy => ?_⟩
  obtain ⟨rfl, rfl⟩ := hy
  refine ⟨ext_self.1, ext_self.2, ?_⟩
  have : d = .int (lo + (i : Nat)) := by
    unfold intsFrom at hd
    rw [List.getElem?_map, List.getElem?_range hi] at hd
    exact (Option.some.inj hd).symm
  rw [this]
  unfold RepV
  rfl
/-- for .. in a value -/
theorem isrc (he : PE X e (tE X.K cA W m)) : PI X tg e (tSrc X.K cA W (srcV m)) :=
  ((pi_tup he).or ((pi_list he).or (pi_str he))).imp fun σ H R h => by
    obtain ⟨ρ, S, l, hS, hl, h⟩ := h
    unfold srcV at h
    generalize hm : m l S = r at h
    -- the kind is known at the outset: the value is
    cases r with
    | bad => exact h.elim
    | ex x S1 =>
      refine .inl ⟨ρ, S, l, hS, hl, ?_⟩
      rw [hm]
      exact h
    | ok d S1 =>
      have h : After X.K cA W ρ H (rSrc X.K cA) (srcD d S1) R := h
      unfold srcD at h
      have st : ∀ {k : It → Hp → Prop} {q : V → Hp → Prop}, (∀ ρ' H' v, Ext ρ H ρ' H' → Reps X.K cA ρ' H' S1 → RepV X.K ρ' H' d v → q v H') → tE X.K cA W m σ H q := fun {k q} hq => ⟨ρ, S, l, hS, hl, by rw [hm]; exact hq⟩
      split at h
      · refine .inl (st (k := R) fun ρ' H' v e1 hS1 hr => ?_)
        unfold RepV at hr
        obtain ⟨x, vs, rfl, h1, h2⟩ := hr
        exact ⟨x, rfl, ⟨vs, h1⟩, h ρ' H' _ e1 hS1 (src_tup h1 h2)⟩
      · refine .inr (.inl (st (k := R) fun ρ' H' v e1 hS1 hr => ?_))
        unfold RepV at hr
        obtain ⟨x, vs, rfl, h1, h2⟩ := hr
        exact ⟨x, rfl, ⟨vs, h1.sq⟩, h ρ' H' _ e1 hS1 (src_lst (chk := still) fun ρ2 H2 S2 e2 _ _ => ⟨vs, (h1.ext e2).sq, RepVs.ext e2 h2⟩)⟩
      · refine .inr (.inr (st (k := R) fun ρ' H' v e1 hS1 hr => ?_))
        unfold RepV at hr
        subst hr
        exact ⟨_, rfl, h ρ' H' _ e1 hS1 src_str⟩
      · split at h
        · rename_i n _ _ xs e0
          refine .inr (.inl (st (k := R) fun ρ' H' v e1 hS1 hr => ?_))
          obtain ⟨x, vs, rfl, ha, h1, h2⟩ := rlst_rep hS1 hr e0
          refine ⟨x, rfl, ⟨vs, SqL.of h1⟩, h ρ' H' _ e1 hS1 (src_lst fun ρ2 H2 S2 e2 hS2 hk => ?_)⟩
          have hr2 : RepV X.K ρ2 H2 (.ref n) (.ref x) := hr.ext e2
          obtain ⟨x', vs', ex, _, h3, h4⟩ := rlst_rep hS2 hr2 hk
          cases ex
          exact ⟨vs', SqL.of h3, h4⟩
        · exact h.elim
      · exact h.elim
/-- for .. in a new list -/
theorem isrcN (he : PE X e (tNw X.K cA W n)) : PI X tg e (tSrc X.K cA W (srcN n)) :=
  (pi_list he).imp fun σ H R h => by
    obtain ⟨ρ, S, l, hS, hl, h⟩ := h
    refine ⟨ρ, S, l, hS, hl, (After.bind (rep := rNew X.K) st_Src h).imp fun v H1 h => ?_⟩
    obtain ⟨ρ1, S1, ds, e1, hS1, ⟨p, vs, rfl, h0, hn, h1, h2⟩, h⟩ := h
    exact ⟨p, rfl, ⟨vs, SqL.of h1⟩, After.same (rep := rSrc X.K cA) h hS1 (src_lst (chk := still) fun ρ2 H2 S2 e2 _ _ => ⟨vs, SqL.of (e2.keep p _ h1 hn), RepVs.ext e2 h2⟩)⟩
theorem irng1 (hg : Gl X "range") (hm : X.mg "range" = none) (ha : PA X [a] (tAs X.K cA W n)) (hs : starEach [a] X.env = [(false, eval a X.env)] := by rfl) : PI X tg (.Call (.Name "range" p0) [a] [] pos) (tSrc X.K cA W (srcR1 n)) :=
  (pi_range1 hg hm ha hs).imp fun σ H R h => (bind1 (rep1 := rVs X.K) st_Src h).imp fun vs H1 h => by
    obtain ⟨ρ, S, ds, hS, hr, h⟩ := h
    unfold rng1 at h
    split at h
    · split at h
      · rename_i hz
        obtain ⟨v, rfl, h1⟩ := one_rep hr
        unfold RepV at h1
        subst h1
        exact ⟨_, rfl, hz.1, hz.2, After.same (rep := rSrc X.K cA) h hS src_int⟩
      · exact h.elim
    · exact h.elim
theorem irng2 (hg : Gl X "range") (hm : X.mg "range" = none) (ha : PA X [a, b] (tAs X.K cA W n)) (hs : starEach [a, b] X.env = [(false, eval a X.env), (false, eval b X.env)] := by rfl) (hs2 : starEach [b] X.env = [(false, eval b X.env)] := by rfl) : PI X tg (.Call (.Name "range" p0) [a, b] [] pos) (tSrc X.K cA W (srcR2 n)) :=
  (pi_range2 hg hm ha hs hs2).imp fun σ H R h => (bind1 (rep1 := rVs X.K) st_Src h).imp fun vs H1 h => by
    obtain ⟨ρ, S, ds, hS, hr, h⟩ := h
    unfold rng2 at h
    split at h
    · split at h
      · rename_i hz
        obtain ⟨v, w, rfl, h1, h2⟩ := two_rep hr
        unfold RepV at h1 h2
        subst h1 h2
        exact ⟨_, _, rfl, hz, After.same (rep := rSrc X.K cA) h hS src_int⟩
      · exact h.elim
    · exact h.elim
end

/-! ### comprehensions -/
def R.noex {α : Type} : R α → R α
  | .ok a S => .ok a S
  | _ => .bad
abbrev W0 : XK := fun _ _ _ => False
theorem After.noex {α β : Type} {K : PySem.W.Frag} {cA : Nat → Addr} {W W' : XK} {ρ : List Addr} {H : Hp} {rep : Rel α β} {r : R α} {Q : β → Hp → Prop} (h : After K cA W ρ H rep r.noex Q) : After K cA W' ρ H rep r Q := by
  cases r with
  | ok a S => exact h
  | ex x S => exact h.elim
  | bad => exact h.elim
theorem noex_bind {α β : Type} (r : R α) (f : α → Store → R β) : (r.bind f).noex = r.noex.bind fun a S => (f a S).noex := by cases r <;> rfl
/-- the slots of the block's own names -/
def wipeL (l : Loc) : List Nat → Loc
  | [] => l
  | v :: vs => (wipeL l vs).set v none
def yesM : MB := fun _ S => .ok true S
/-- how a block's target is set: one name, or several -/
inductive Tgt where
  | one (i : Nat) | many (is : List Nat)
def Tgt.own : Tgt → List Nat
  | .one i => [i]
  | .many is => is
def Tgt.put (t : Tgt) (d : D) (l : Loc) : Option Loc := match t with
  | .one i => some (l.set i (some d))
  | .many is => match d with
    | .tup xs => namesL is xs l
    | _ => none
open Classical in
noncomputable def compL (chk : Store → Prop) (t : Tgt) (c : MB) (m : ME) (l : Loc) : List D → List D → Store → R (List D)
  | [], acc, S => if chk S then .ok acc S else .bad
  | d :: ds, acc, S => if chk S then (match t.put d l with
    | some l1 => (c l1 S).bind fun b S1 => if b = true then (m l1 S1).bind fun y S2 => if acc.length < sizeLine then compL chk t c m l ds (acc ++ [y]) S2 else .bad else compL chk t c m l ds acc S1
    | none => .bad) else .bad
noncomputable def compN (src : Loc → Store → R Sn) (t : Tgt) (c : MB) (m : ME) : MA := fun l S => (src l S).bind fun p S1 => (compL p.2 t c m (wipeL l t.own) p.1 [] S1).noex
section
variable {X : Cx} {cA : Nat → Addr} {W : XK} {K : PySem.W.Frag}
theorem RepL.wipe {ρ : List Addr} {H : Hp} {l : Loc} {σ : L2.St} (h : RepL K ρ H l σ) : ∀ vs : List Nat, RepL K ρ H (wipeL l vs) (wipe σ vs)
  | [] => h
  | v :: vs => by
    have ih := RepL.wipe h vs
    refine ⟨by unfold wipeL L2.wipe; rw [List.length_set, List.length_set]; exact ih.len, fun j e hj => ?_⟩
    unfold wipeL at hj
    unfold L2.wipe
    by_cases q : v = j
    · subst q
      have hi : v < (wipeL l vs).length := by
        have := (List.getElem?_eq_some_iff.mp hj).1
        rwa [List.length_set] at this
      rw [List.getElem?_set_self hi] at hj
      cases hj
    · rw [List.getElem?_set_ne q] at hj
      obtain ⟨w, hw, r⟩ := ih.at_ j e hj
      exact ⟨w, by rw [List.getElem?_set_ne q]; exact hw, r⟩
theorem set_wipe {σ : L2.St} {i : Nat} {v : Option V} : ∀ {vs : List Nat}, i ∈ vs → wipe (σ.set i v) vs = wipe σ vs
  | [], h => nomatch h
  | j :: vs, h => by
    unfold L2.wipe
    by_cases q : j = i
    · subst q
      by_cases hm : j ∈ vs
      · rw [set_wipe hm]
      · rw [wipe_set_comm hm, List.set_set]
    · rcases List.mem_cons.mp h with e | hm
      · exact absurd e.symm q
      · rw [set_wipe hm]
where
  wipe_set_comm {σ : L2.St} {i : Nat} {v : Option V} : ∀ {vs : List Nat}, i ∉ vs → wipe (σ.set i v) vs = (wipe σ vs).set i v
    | [], _ => rfl
    | j :: vs, h => by
      unfold L2.wipe
      have h1 : j ≠ i := fun e => h (by simp [e])
      have h2 : i ∉ vs := fun e => h (by simp [e])
      rw [wipe_set_comm h2, List.set_comm _ _ (Ne.symm h1)]
/-- the raw reading of a target -/
def gT (K : PySem.W.Frag) : Tgt → TG
  | .one i => gName i
  | .many is => gTup K is.length (gNms is)
theorem gNms_of {ρ : List Addr} {H : Hp} : ∀ {is : List Nat} {ds : List D} {vs : List V} {l l1 : Loc} {σ : L2.St} {own : List Nat} {Q : L2.St → Hp → Prop}, (∀ i ∈ is, i ∈ own) → namesL is ds l = some l1 → RepVs K ρ H ds vs → RepL K ρ H l σ →
    (∀ σ1, RepL K ρ H l1 σ1 → wipe σ1 own = wipe σ own → Q σ1 H) → gNms is vs σ H Q
  | [], [], vs, l, l1, σ, own, Q, ho, h, r, hl, q => by
    unfold RepVs at r
    cases h
    exact ⟨r, q σ hl rfl⟩
  | i :: is, d :: ds, vs, l, l1, σ, own, Q, ho, h, r, hl, q => by
    unfold RepVs at r
    obtain ⟨v, w, rfl, h1, h2⟩ := r
    refine ⟨v, w, rfl, gNms_of (is := is) (own := own) (fun i hi => ho i (List.mem_cons_of_mem _ hi)) h h2 (hl.set h1 i) fun σ1 hl1 e => q σ1 hl1 ?_⟩
    rw [e, set_wipe (ho i List.mem_cons_self)]
  | [], _ :: _, _, _, _, _, _, _, _, h, _, _, _ => nomatch h
  | _ :: _, [], _, _, _, _, _, _, _, h, _, _, _ => nomatch h
theorem gT_of {ρ : List Addr} {H : Hp} {t : Tgt} {d : D} {v : V} {l l1 : Loc} {σ : L2.St} {Q : L2.St → Hp → Prop} (h : t.put d l = some l1) (r : RepV K ρ H d v) (hl : RepL K ρ H l σ) (q : ∀ σ1, RepL K ρ H l1 σ1 → wipe σ1 t.own = wipe σ t.own → Q σ1 H) : gT K t v σ H Q := by
  cases t with
  | one i =>
    cases h
    exact q _ (hl.set r i) (set_wipe (by simp [Tgt.own]))
  | many is =>
    unfold Tgt.put at h
    cases d with
    | tup xs =>
      unfold RepV at r
      obtain ⟨a, vs, rfl, h1, h2⟩ := r
      exact ⟨a, vs, rfl, h1, by rw [RepVs.length h2]; exact namesL_len h, gNms_of (own := is) (fun _ h => h) h h2 hl q⟩
    | _ => cases h
theorem wipe_wipe {σ : L2.St} : ∀ {vs : List Nat}, wipe (wipe σ vs) vs = wipe σ vs
  | [] => rfl
  | v :: vs => by
    rw [show wipe σ (v :: vs) = (wipe σ vs).set v none from rfl]
    exact (set_wipe List.mem_cons_self).trans (by show (wipe (wipe σ vs) vs).set v none = _; rw [wipe_wipe])
variable {elt tg iter : Expr} {ifs : List Expr} {scope : Scope} {own : List (Str × Nat)} {pos spos : Pos} {src : Loc → Store → R Sn} {t : Tgt} {c : MB} {m : ME}
mutual
theorem RepV.hp {ρ : List Addr} {H H' : Hp} (t1 : ∀ a xs, Rd H a (.tup xs) → Rd H' a (.tup xs)) (t2 : ∀ a o xs, H a = some (.frz o (.lst xs)) → H' a = some (.frz o (.lst xs))) : ∀ {d : D} {v : V}, RepV K ρ H d v → RepV K ρ H' d v
  | .non, _, h => h
  | .bl _, _, h => h
  | .int _, _, h => h
  | .str _, _, h => h
  | .tup xs, v, h => by
    unfold RepV at h ⊢
    obtain ⟨a, vs, ev, hs, hr⟩ := h
    refine ⟨a, vs, ev, ?_, RepVs.hp t1 t2 hr⟩
    rcases hs with hs | hs
    · exact .inl (t1 a vs hs)
    · exact .inr hs
  | .lis xs, v, h => by
    unfold RepV at h ⊢
    obtain ⟨a, vs, ev, hs, hr⟩ := h
    refine ⟨a, vs, ev, ?_, RepVs.hp t1 t2 hr⟩
    rcases hs with ⟨o, hs⟩ | hs
    · exact .inl ⟨o, t2 a o vs hs⟩
    · exact .inr hs
  | .ref n, v, h => h
  | .exn _, v, h => h
theorem RepVs.hp {ρ : List Addr} {H H' : Hp} (t1 : ∀ a xs, Rd H a (.tup xs) → Rd H' a (.tup xs)) (t2 : ∀ a o xs, H a = some (.frz o (.lst xs)) → H' a = some (.frz o (.lst xs))) : ∀ {ds : List D} {vs : List V}, RepVs K ρ H ds vs → RepVs K ρ H' ds vs
  | [], _, h => h
  | x :: xs, vs, h => by
    unfold RepVs at h ⊢
    obtain ⟨v, r, ev, h1, h2⟩ := h
    exact ⟨v, r, ev, RepV.hp t1 t2 h1, RepVs.hp t1 t2 h2⟩
end
theorem RepP.hp {ρ : List Addr} {H H' : Hp} (t1 : ∀ a xs, Rd H a (.tup xs) → Rd H' a (.tup xs)) (t2 : ∀ a o xs, H a = some (.frz o (.lst xs)) → H' a = some (.frz o (.lst xs))) {κ : Type} : ∀ {kvs : List (κ × D)} {ps : List (κ × V)}, RepP K ρ H kvs ps → RepP K ρ H' kvs ps
  | [], _, h => h
  | (k, x) :: r, ps, h => by
    unfold RepP at h ⊢
    obtain ⟨v, q, ev, h1, h2⟩ := h
    exact ⟨v, q, ev, h1.hp t1 t2, RepP.hp t1 t2 h2⟩
/-- an inner step, the wish kept of where it began -/
theorem After.step {α β γ δ : Type} {W : XK} {ρ1 ρ2 : List Addr} {H1 H2 : Hp} {rep : Rel α β} {rep' : Rel γ δ} {r : R α} {f : α → Store → R γ} {Q : δ → Hp → Prop} (h : After K cA W ρ1 H1 rep' (r.bind f) Q) (e : Ext ρ1 H1 ρ2 H2) :
    After K cA W ρ2 H2 rep r fun b H3 => ∃ ρ3 S3 a, Ext ρ2 H2 ρ3 H3 ∧ Reps K cA ρ3 H3 S3 ∧ rep H2 ρ3 H3 a b ∧ After K cA W ρ1 H1 rep' (f a S3) Q := by
  cases r with
  | ok a S => exact fun ρ' H' b e' hs hr => ⟨ρ', S, a, e', hs, hr, h⟩
  | ex x S => exact fun ρ' H' c d e' hs hr => h ρ' H' c d (e.trans e') hs hr
  | bad => exact h
/-- the list that is being built is written -/
structure Owned (D0 : Addr) (ρ1 : List Addr) (H1 : Hp) (ρ2 : List Addr) (H2 : Hp) (vs : List V) : Prop where
  no : H1 D0 = none
  ext : Ext ρ1 H1 ρ2 H2
  nin : D0 ∉ ρ2
  at_ : H2 D0 = some (.lst vs)
section
variable {D0 : Addr} {ρ1 ρ2 ρ3 : List Addr} {H1 H2 H3 : Hp} {vs ws : List V}
theorem Owned.go (o : Owned D0 ρ1 H1 ρ2 H2 vs) (e : Ext ρ2 H2 ρ3 H3) : Owned D0 ρ1 H1 ρ3 H3 vs := by
  refine ⟨o.no, o.ext.trans e, fun hm => ?_, e.keep D0 _ o.at_ o.nin⟩
  obtain ⟨r, er, nr⟩ := e.pre
  rw [er] at hm
  rcases List.mem_append.mp hm with z | z
  · exact o.nin z
  · have := nr D0 z
    rw [o.at_] at this; cases this
theorem Owned.t1 (o : Owned D0 ρ1 H1 ρ2 H2 vs) : ∀ a xs, Rd H2 a (.tup xs) → Rd (upd H2 D0 (.lst ws)) a (.tup xs) := fun a xs h => by
  have ne : a ≠ D0 := by
    rintro rfl
    rcases h with h | ⟨u, h⟩ <;> (rw [o.at_] at h; cases h)
  rcases h with h | ⟨u, h⟩
  · exact .inl (by rw [upd_ne ne]; exact h)
  · exact .inr ⟨u, by rw [upd_ne ne]; exact h⟩
theorem Owned.t2 (o : Owned D0 ρ1 H1 ρ2 H2 vs) : ∀ a u xs, H2 a = some (.frz u (.lst xs)) → (upd H2 D0 (.lst ws)) a = some (.frz u (.lst xs)) := fun a u xs h => by
  have ne : a ≠ D0 := by
    rintro rfl
    rw [o.at_] at h; cases h
  rw [upd_ne ne]; exact h
theorem Owned.put (o : Owned D0 ρ1 H1 ρ2 H2 vs) : Owned D0 ρ1 H1 ρ2 (upd H2 D0 (.lst ws)) ws := by
  have ne : ∀ {b : Addr}, H1 b ≠ none → b ≠ D0 := fun {b} hb e => hb (by rw [e]; exact o.no)
  obtain ⟨r, er, nr⟩ := o.ext.pre
  refine ⟨o.no, ⟨⟨r, er, nr⟩, fun b q hb nb => ?_, fun b xs hb => o.t1 b xs (o.ext.tups b xs hb), fun b q xs hb => o.t2 b q xs (o.ext.frzs b q xs hb), fun b hb => ?_⟩, o.nin, upd_same⟩
  · rw [upd_ne (ne (by rw [hb]; simp))]; exact o.ext.keep b q hb nb
  · rw [upd_ne (ne hb)]; exact o.ext.there b hb
theorem Owned.reps {S : Store} (o : Owned D0 ρ1 H1 ρ2 H2 vs) (h : Reps K cA ρ2 H2 S) : Reps K cA ρ2 (upd H2 D0 (.lst ws)) S := by
  refine ⟨h.len, h.nd, fun n c a hc ha => ?_⟩
  have na : a ≠ D0 := fun e => o.nin (by rw [← e]; exact List.mem_of_getElem? ha)
  have q := h.at_ n c a hc ha
  cases c with
  | lst xs => obtain ⟨vs, h1, h2⟩ := q; exact ⟨vs, by rw [upd_ne na]; exact h1, h2.hp o.t1 o.t2⟩
  | dct xs => obtain ⟨vs, h1, h2⟩ := q; exact ⟨vs, by rw [upd_ne na]; exact h1, h2.hp o.t1 o.t2⟩
  | dlk xs => obtain ⟨u, vs, h1, h2⟩ := q; exact ⟨u, vs, by rw [upd_ne na]; exact h1, h2.hp o.t1 o.t2⟩
  | ins c xs => obtain ⟨dx, vs, h1, h2⟩ := q; exact ⟨dx, vs, by rw [upd_ne na]; exact h1, h2.hp o.t1 o.t2⟩
end
/-- what a comprehension asks -/
theorem comp_of (ho : own.map (·.2) = t.own) {σ : L2.St} {H : Hp} {Q : VK} (h : tNw X.K cA W (compN src t c m) σ H Q) : tLc (tSrc X.K cA W src) (gT X.K t) (tT X.K cA W0 c) (tE X.K cA W0 m) (own.map (·.2)) σ H Q := by
  rw [ho]
  obtain ⟨ρ, S, l, hS, hl, h⟩ := h
  refine ⟨ρ, S, l, hS, hl, (After.bind (rep := rSrc X.K cA) st_New h).imp fun J H1 h => ?_⟩
  obtain ⟨ρ1, S1, p, e1, hS1, hJ, h⟩ := h
  intro D0 hD
  have hl1 : RepL X.K ρ1 H1 (wipeL l t.own) (wipe σ t.own) := (hl.ext e1).wipe t.own
  -- the invariant: behind i turns
  refine ⟨fun i k H2 => ∃ ρ2 S2 acc vs, Owned D0 ρ1 H1 ρ2 H2 vs ∧ Reps X.K cA ρ2 H2 S2 ∧ RepVs X.K ρ2 H2 acc vs ∧ k + i = p.1.length ∧
    After X.K cA W ρ1 H1 (rNew X.K) (compL p.2 t c m (wipeL l t.own) (p.1.drop i) acc S2).noex Q, ?_, ?_⟩
  · refine ⟨p.1.length, ρ1, S1, [], [], ⟨hD, Ext.new hD, hS1.free hD, upd_same⟩, hS1.new hD, .nil, by omega, ?_⟩
    rw [List.drop_zero]
    exact h
  · rintro i k H2 ⟨ρ2, S2, acc, vs, o, hS2, hr, hk, h⟩
    by_cases hi : i < p.1.length
    · have hd : p.1.drop i = p.1[i] :: p.1.drop (i + 1) := List.drop_eq_getElem_cons hi
      rw [hd] at h
      unfold compL at h
      split at h
      · rename_i hc
        obtain ⟨hgo, hy⟩ := hJ.go ρ2 H2 S2 o.ext hS2 hc i p.1[i] (List.getElem?_eq_getElem hi)
        refine .inr ⟨hgo, fun H' => ∃ ρ2 S2 acc vs, Owned D0 ρ1 H1 ρ2 H' vs ∧ Reps X.K cA ρ2 H' S2 ∧ RepVs X.K ρ2 H' acc vs ∧
          After X.K cA W ρ1 H1 (rNew X.K) (compL p.2 t c m (wipeL l t.own) (p.1.drop (i + 1)) acc S2).noex Q, fun H' ⟨ρ2, S2, acc, vs, a1, a2, a3, a4⟩ => ⟨k - 1, by omega, ρ2, S2, acc, vs, a1, a2, a3, by omega, a4⟩, fun x H3 hx => ?_⟩
        obtain ⟨e3, same, rx⟩ := hy x H3 hx
        have hS3 := hS2.other e3 same
        have o3 := o.go e3
        split at h
        · rename_i l1 el
          have hl3 : RepL X.K ρ2 H3 (wipeL l t.own) (wipe σ t.own) := hl1.ext o3.ext
          refine gT_of el rx hl3 fun σ1 hs1 hw => ⟨hw.trans wipe_wipe, ?_⟩
          rw [noex_bind] at h
          refine ⟨ρ2, S2, l1, hS3, hs1, After.noex (W := W) ((After.step (rep := rId) h o3.ext).imp fun tb H4 hq => ?_)⟩
          obtain ⟨ρ4, S4, tb', e4, hS4, ht, h⟩ := hq
          subst ht
          have o4 := o3.go e4
          have hr4 : RepVs X.K ρ4 H4 acc vs := RepVs.ext e4 (RepVs.ext e3 hr)
          cases tb' with
          | true =>
            simp only [if_true] at h ⊢
            rw [noex_bind] at h
            refine ⟨ρ4, S4, l1, hS4, hs1.ext e4, After.noex (W := W) ((After.step (rep := rV X.K) h o4.ext).imp fun y H5 hq => ?_)⟩
            obtain ⟨ρ5, S5, yd, e5, hS5, ry, h⟩ := hq
            have o5 := o4.go e5
            have hr5 := RepVs.ext e5 hr4
            split at h
            · rename_i hz
              refine ⟨vs, o5.at_, by rw [RepVs.length hr5]; exact hz, ρ5, S5, acc ++ [yd], vs ++ [y], o5.put, o5.reps hS5, ?_, h⟩
              exact RepVs.hp o5.t1 o5.t2 (hr5.append (.cons ry .nil))
            · exact h.elim
          | false =>
            exact ⟨ρ4, S4, acc, vs, o4, hS4, hr4, h⟩
        · exact h.elim
      · exact h.elim
    · have ei : i = p.1.length := by omega
      subst ei
      rw [List.drop_length] at h
      unfold compL at h
      split at h
      · rename_i hc
        exact .inl ⟨hJ.stop ρ2 H2 S2 o.ext hS2 hc, h ρ2 H2 _ o.ext hS2 ⟨D0, vs, rfl, hD, o.nin, o.at_, hr⟩⟩
      · exact h.elim
/-- [elt for .. in .. if ..] -/
theorem mcomp (ho : own.map (·.2) = t.own) (hc : X.calm = true) (hN : X.N.Nodup) (hi : PI X tg iter (tSrc X.K cA W src)) (ok : BlkOk X.N X.env.scope scope own)
    (hg : ∀ (s : Shared) (H : Hp) (C : Addr) (cl : List (Str × Addr)) (fp : List Addr), PG (X.blk s H scope (compEnvC scope cl C X.env) fp) tg (gT X.K t)) (ht : ∀ (s : Shared) (H : Hp) (C : Addr) (cl : List (Str × Addr)) (fp : List Addr), PTs (X.blk s H scope (compEnvC scope cl C X.env) fp) ifs (tT X.K cA W0 c))
    (he : ∀ (s : Shared) (H : Hp) (C : Addr) (cl : List (Str × Addr)) (fp : List Addr), PE (X.blk s H scope (compEnvC scope cl C X.env) fp) elt (tE X.K cA W0 m)) (hs : ∀ x, foldedSetIterable iter X.env x = pure x := by intro _; rfl) :
    PE X (.ListComp elt [⟨tg, iter, ifs, 0⟩] scope pos) (tNw X.K cA W (compN src t c m)) :=
  (pe_lc hc hN hi ok hg ht he hs).imp fun σ H Q h => comp_of ho h
/-- y = [elt for .. in .. if ..] -/
theorem ssetC {i : Nat} {y : Str} {py : Pos} (ho : own.map (·.2) = t.own) (hc : X.calm = true) (hN : X.N.Nodup) (hy : X.N[i]? = some y) (hyl : X.env.scope.names.lookup y = some .local)
    (hsw : swapsWith (.ListComp elt [⟨tg, iter, ifs, 0⟩] scope pos) (some (.Name y py)) spos.line X.env = pure true) (hi : PI X tg iter (tSrc X.K cA W src)) (ok : BlkOk X.N X.env.scope scope own)
    (hg : ∀ (s : Shared) (H : Hp) (C : Addr) (cl : List (Str × Addr)) (fp : List Addr), PG (X.blk s H scope (compEnvC scope cl C X.env) fp) tg (gT X.K t)) (ht : ∀ (s : Shared) (H : Hp) (C : Addr) (cl : List (Str × Addr)) (fp : List Addr), PTs (X.blk s H scope (compEnvC scope cl C X.env) fp) ifs (tT X.K cA W0 c))
    (he : ∀ (s : Shared) (H : Hp) (C : Addr) (cl : List (Str × Addr)) (fp : List Addr), PE (X.blk s H scope (compEnvC scope cl C X.env) fp) elt (tE X.K cA W0 m)) (hs : ∀ x, foldedSetIterable iter X.env x = pure x := by intro _; rfl) :
    PS X (.Assign [.Name y py] (.ListComp elt [⟨tg, iter, ifs, 0⟩] scope pos) spos) (tS X.K cA W (setS i (allocE (compN src t c m)))) :=
  (ps_setLc hc hN hy hyl hsw hi ok hg ht he hs).imp fun E σ H h => by
    have h1 : tE X.K cA W (allocE (compN src t c m)) σ H fun v H1 => E.nx (σ.set i (some v)) H1 := (after_L (rep := rV X.K) h).imp fun v H1 h => by
      obtain ⟨ρ, S, l, d, hS, hl, hr, h⟩ := h
      exact After.same (b := (FlV.nx, σ.set i (some v))) h hS ⟨hl.set hr i, trivial⟩
    exact comp_of ho (alloc_of h1)
where
  alloc_of {n : MA} {σ : L2.St} {H : Hp} {Q : VK} (h : tE X.K cA W (allocE n) σ H Q) : tNw X.K cA W n σ H Q := by
    obtain ⟨ρ, S, l, hS, hl, h⟩ := h
    refine ⟨ρ, S, l, hS, hl, ?_⟩
    unfold allocE at h
    generalize n l S = r at h
    cases r with
    | ok ds S1 =>
      intro ρ' H' v e1 hs hr
      obtain ⟨p, vs, rfl, h0, hn, h1, h2⟩ := hr
      refine h (ρ' ++ [p]) H' (.ref p) (e1.take h0) (hs.push hn ⟨vs, h1, h2⟩) ?_
      show RepV X.K (ρ' ++ [p]) H' (.ref S1.length) (.ref p)
      unfold RepV
      exact ⟨p, by rw [← hs.len, List.getElem?_append_right (Nat.le_refl _)]; simp, rfl⟩
    | ex x S1 => exact h
    | bad => exact h
theorem tyes : PTs X [] (tT X.K cA W yesM) := ⟨fun pins s σ H Q I h => pts_nil.run pins s σ H Q I (by
  obtain ⟨ρ, S, l, hS, hl, h⟩ := h
  exact After.same (rep := rId) h hS rfl)⟩
theorem tone {c : Expr} {p : MB} (h : PT X c (tT X.K cA W p)) : PTs X [c] (tT X.K cA W p) := pts_one h
end

/-! ### calls, defs -/
def spM (K : PySem.W.Frag) (cA : Nat → Addr) (G : List D → Store → R D) (n : Nat) : Sp := fun vs H Q E => vs.length = n ∧ tN K cA E (rV K) G vs H Q
structure FnM (P : Program) (w : World) (K : PySem.W.Frag) (mg : Str → Option Value) (base : Heap) (cA : Nat → Addr) (k : Nat) (x : Str) (n : Nat) (G : List D → Store → R D) : Prop where
  ex : ∃ f fd ps, mg x = some (.ref f) ∧ PySem.W.keepIn K (.ref f) = true ∧ Binds K fd ps [] ∧ FnOk P w K mg base (L2.CX P w) k f fd ps (spM K cA G n)
def callE (n : Nat) (G : List D → Store → R D) (m : MA) : ME := fun l S => (m l S).bind fun ds S1 => if ds.length = n then G ds S1 else .bad
def startL (n : Nat) (ds : List D) : Loc := ds.map some ++ List.replicate (n - ds.length) none
def bodyF (n : Nat) (m : MS) (ds : List D) (S : Store) : R D := (m (startL n ds) S).bind fun p S1 => match p.1 with
  | .nx => .ok .non S1
  | .rt d => .ok d S1
  | _ => .bad
section
variable {X : Cx} {cA : Nat → Addr} {W : XK} {p pos : Pos} {x : Str} {e : Expr} {es : List Expr} {m : MA} {k j n : Nat} {G : List D → Store → R D}
theorem call_of {σ : L2.St} {H : Hp} {Q : VK} (h : tE X.K cA W (callE n G m) σ H Q) : tAs X.K cA W m σ H fun vs H1 => spM X.K cA G n vs H1 Q W :=
  (bind1 (rep1 := rVs X.K) st_V h).imp fun vs H1 h => by
    obtain ⟨ρ, S, ds, hS, hr, h⟩ := h
    split at h
    · rename_i hn
      exact ⟨by rw [RepVs.length hr]; exact hn, ρ, S, ds, hS, hr, h⟩
    · exact h.elim
theorem mcall (F : FnM X.prog X.w X.K X.mg X.base cA k x n G) (hk : k ≤ j) (hr : Room j X.A) (hx : Passes (L2.CX X.prog X.w) X W) (hg : Gl X x) (ha : PA X (e :: es) (tAs X.K cA W m)) (hdb : (x == ("__debug__" : Str)) = false := by decide)
    (he : starEach (e :: es) X.env = (false, eval e X.env) :: starEach es X.env := by rfl) (hpl : (backTo pos (starEach es X.env)).any (·.1) = false := by rfl) : PE X (.Call (.Name x p) (e :: es) [] pos) (tE X.K cA W (callE n G m)) := by
  obtain ⟨f, fd, ps, hm, hkp, hb, FF⟩ := F.ex
  exact (pe_call FF (hr.mono hk) hg hm hkp hb .nil hx ha hdb he hpl).imp fun σ H Q h => by
    refine (call_of h).imp fun vs H1 h => ?_
    show spM X.K cA G n (vs ++ []) H1 Q W
    rw [List.append_nil]
    exact h
theorem mcall0 (F : FnM X.prog X.w X.K X.mg X.base cA k x n G) (hk : k ≤ j) (hr : Room j X.A) (hx : Passes (L2.CX X.prog X.w) X W) (hg : Gl X x) (hdb : (x == ("__debug__" : Str)) = false := by decide) : PE X (.Call (.Name x p) [] [] pos) (tE X.K cA W (callE n G nilA)) := by
  obtain ⟨f, fd, ps, hm, hkp, hb, FF⟩ := F.ex
  exact (pe_call0 FF (hr.mono hk) hg hm hkp hb .nil hx hdb).imp fun σ H Q h => by
    obtain ⟨ρ, S, l, hS, hl, h⟩ := h
    have h : After X.K cA W ρ H (rV X.K) (if ([] : List D).length = n then G [] S else .bad) Q := h
    split at h
    · rename_i hn
      exact ⟨hn, ρ, S, [], hS, .nil, h⟩
    · exact h.elim
end
section
variable {P : Program} {w : World} {K : PySem.W.Frag} {mg : Str → Option Value} {base : Heap} {cA : Nat → Addr}
theorem start_rep {ρ : List Addr} {H : Hp} {ds : List D} {vs : List V} {N : List Str} (h : RepVs K ρ H ds vs) : RepL K ρ H (startL N.length ds) (L2.start N vs) := by
  have hl := RepVs.length h
  refine ⟨by unfold startL L2.start; simp [hl], fun i d hd => ?_⟩
  unfold startL at hd
  unfold L2.start
  by_cases q : i < ds.length
  · rw [List.getElem?_append_left (by simpa using q), List.getElem?_map] at hd
    cases e : ds[i]? with
    | none => rw [e] at hd; cases hd
    | some x =>
      rw [e] at hd
      have : x = d := Option.some.inj (Option.some.inj hd)
      subst this
      obtain ⟨v, hv, r⟩ := RepVs.get h i x e
      exact ⟨v, by rw [List.getElem?_append_left (by simpa [hl] using q), List.getElem?_map, hv]; rfl, r⟩
  · rw [List.getElem?_append_right (by simpa using q), List.getElem?_replicate] at hd
    split at hd <;> cases hd
/-- a def keeps what its body's function says -/
theorem defM {x qual : Str} {st : Stmt} {f : Addr} {fd : FuncData} {N ps : List Str} {k : Nat} {m : MS} (F : Fun K x qual st f fd) (S : FnScope N ps (defScope st))
    (hbody : ∀ (cdv : Value) (A : Around) (outer : List Env) (s : Shared) (H : Hp) (E : XK), Room k (A.deeper (PyProof.Rows.envOfC qual (defScope st) s.heap.objs.size f cdv)) →
      PSs (cxOf (L2.CX P w) P w K mg base N qual (defScope st) f cdv A outer s H E) (defBody st) (tS K cA E m)) : FnOk P w K mg base (L2.CX P w) (k + 1) f fd ps (spM K cA (bodyF N.length m) ps.length) :=
  F.okX S (fun vs H Q E h => h.1) fun cdv A outer s H vs Q E hr h => by
    obtain ⟨hl, ρ, S0, ds, hS, hrep, h⟩ := h
    refine ⟨tS K cA E m, hbody cdv A outer s H E hr, ρ, S0, startL N.length ds, hS, start_rep hrep, (After.bind (rep := rS K) st_V h).imp fun b H1 h => ?_⟩
    obtain ⟨ρ1, S1, a, e1, hS1, ⟨hl1, hf⟩, h⟩ := h
    obtain ⟨fl, l1⟩ := a
    obtain ⟨g, σ1⟩ := b
    cases fl with
    | nx => cases g with
      | nx => exact After.same (rep := rV K) h hS1 rep_non'
      | _ => exact hf.elim
    | rt d => cases g with
      | rt v => exact After.same (rep := rV K) h hS1 hf
      | _ => exact hf.elim
    | bk => exact h.elim
    | ct => exact h.elim
/-- what a def's body may hand on -/
theorem pass_def {N : List Str} {qual : Str} {scope : Scope} {f : Addr} {cd : Value} {A : Around} {outer : List Env} {s : Shared} {H : Hp} {E : XK} : Passes (L2.CX P w) (cxOf (L2.CX P w) P w K mg base N qual scope f cd A outer s H E) E :=
  passes_call (takes_of rfl rfl rfl rfl) fun _ _ _ _ h => h
theorem own_def {N : List Str} {qual : Str} {scope : Scope} {f : Addr} {cd : Value} {A : Around} {outer : List Env} {s : Shared} {H : Hp} {E : XK} : PassesOwn (model P w) (cxOf (L2.CX P w) P w K mg base N qual scope f cd A outer s H E).A (cxOf (L2.CX P w) P w K mg base N qual scope f cd A outer s H E).env (cxOf (L2.CX P w) P w K mg base N qual scope f cd A outer s H E).xe := passes_of rfl
end
end ML

set_option Elab.async false
set_option linter.all false
set_option maxRecDepth 100000
set_option autoImplicit false
/-! ML9: what is built in by its name; dicts written out; new lists compared; list(range(..)). -/
namespace ML
open PySem PySem.Spec L2

theorem bt_len : bootBuiltins "len" = some (.builtin "len") := by decide +kernel
theorem bt_abs : bootBuiltins "abs" = some (.builtin "abs") := by decide +kernel
theorem bt_max : bootBuiltins "max" = some (.builtin "max") := by decide +kernel
theorem bt_min : bootBuiltins "min" = some (.builtin "min") := by decide +kernel
theorem bt_all : bootBuiltins "all" = some (.builtin "all") := by decide +kernel
theorem bt_any : bootBuiltins "any" = some (.builtin "any") := by decide +kernel
theorem bt_sum : bootBuiltins "sum" = some (.builtin "sum") := by decide +kernel
theorem bt_sorted : bootBuiltins "sorted" = some (.builtin "sorted") := by decide +kernel
theorem bt_ord : bootBuiltins "ord" = some (.builtin "ord") := by decide +kernel
theorem bt_isinstance : bootBuiltins "isinstance" = some (.builtin "isinstance") := by decide +kernel
theorem bt_int : bootBuiltins "int" = some (.type "int") := by decide +kernel
theorem bt_str : bootBuiltins "str" = some (.type "str") := by decide +kernel
theorem bt_bool : bootBuiltins "bool" = some (.type "bool") := by decide +kernel
theorem bt_list : bootBuiltins "list" = some (.type "list") := by decide +kernel
theorem bt_tuple : bootBuiltins "tuple" = some (.type "tuple") := by decide +kernel
theorem bt_dict : bootBuiltins "dict" = some (.type "dict") := by decide +kernel
theorem bt_set : bootBuiltins "set" = some (.type "set") := by decide +kernel

/-! ### dicts written out -/
abbrev MP := Loc → Store → R (List (D × D))
def nilP : MP := fun _ S => .ok [] S
def consP (k v : ME) (r : MP) : MP := fun l S => (k l S).bind fun a S1 => (v l S1).bind fun b S2 => (r l S2).bind fun ps S3 => .ok ((a, b) :: ps) S3
def keysO (ps : List (D × D)) : Option (List (Key × D)) := mapO (fun p => (keyO p.1).map fun k => (k, p.2)) ps
def mergeD (kvs more : List (Key × D)) : List (Key × D) := more.foldl (fun acc kv => dPut acc kv.1 kv.2) kvs
def dictE (r : MP) : ME := fun l S => (r l (S ++ [.dct []])).bind fun ps S1 => match keysO ps with
  | some kvs => if kvs.length ≤ 15 then (match dctAt S1 S.length with
    | some [] => .ok (.ref S.length) (S1.set S.length (.dct (mergeD [] kvs)))
    | _ => .bad) else .bad
  | none => .bad
def dict0 : ME := fun _ S => newC (.dct []) S
def RepPr (K : PySem.W.Frag) (ρ : List Addr) (H : Hp) : List (D × D) → List (V × V) → Prop
  | [], ps => ps = []
  | (a, b) :: r, ps => ∃ x y q, ps = (x, y) :: q ∧ RepV K ρ H a x ∧ RepV K ρ H b y ∧ RepPr K ρ H r q
theorem RepPr.ext {K : PySem.W.Frag} {ρ ρ' : List Addr} {H H' : Hp} (e : Ext ρ H ρ' H') : ∀ {ds : List (D × D)} {ps : List (V × V)}, RepPr K ρ H ds ps → RepPr K ρ' H' ds ps
  | [], _, h => h
  | (a, b) :: r, ps, h => by
    obtain ⟨x, y, q, ep, h1, h2, h3⟩ := h
    exact ⟨x, y, q, ep, h1.ext e, h2.ext e, RepPr.ext e h3⟩
def rPr (K : PySem.W.Frag) : Rel (List (D × D)) (List (V × V)) := fun _ ρ H a b => RepPr K ρ H a b
theorem st_Pr {K : PySem.W.Frag} : Stable (rPr K) := fun _ _ _ _ _ _ _ _ _ h => h
/-- a display's pairs keep their reading -/
def PairsOk (K : PySem.W.Frag) (cA : Nat → Addr) (W : XK) (trs : List (TE × TE)) (r : MP) : Prop := ∀ (σ : L2.St) (H : Hp) (Q : List (V × V) → Hp → Prop), tG K cA W (rPr K) r σ H Q → tPairs trs σ H Q
section
variable {X : Cx} {cA : Nat → Addr} {W : XK} {pos : Pos} {K : PySem.W.Frag} {ρ : List Addr} {H : Hp}
structure PD (X : Cx) (cA : Nat → Addr) (W : XK) (pos : Pos) (ks : List (Option Expr)) (vs : List Expr) (r : MP) : Prop where
  ex : ∃ trs, PPs X pos ks vs trs ∧ PairsOk X.K cA W trs r
theorem pnil : PD X cA W pos [] [] nilP := ⟨[], pps_nil, fun σ H Q h => by
  obtain ⟨ρ, S, l, hS, hl, h⟩ := h
  exact After.same (rep := rPr X.K) h hS rfl⟩
theorem pcons {k v : Expr} {ks : List (Option Expr)} {vs : List Expr} {mk mv : ME} {r : MP} (hk : PE X k (tE X.K cA W mk)) (hv : PE X v (tE X.K cA W mv)) (hr : PD X cA W pos ks vs r) : PD X cA W pos (some k :: ks) (v :: vs) (consP mk mv r) := by
  obtain ⟨trs, h1, h2⟩ := hr.ex
  refine ⟨_, pps_cons hk hv h1, fun σ H Q h => ?_⟩
  refine tG.imp (bind3 (rep1 := rV X.K) (rep2 := rV X.K) (rep3 := rPr X.K) st_Pr mo_V mo_V h) fun x H1 h => tG.imp h fun y H2 h => h2 _ _ _ (tG.imp h fun ps H3 h => ?_)
  obtain ⟨ρ, S, a, b, c, hS, r1, r2, r3, h⟩ := h
  exact After.same (rep := rPr X.K) h hS ⟨x, y, ps, rfl, r1, r2, r3⟩
theorem keys_of : ∀ {ds : List (D × D)} {ps : List (V × V)} {kvs : List (Key × D)}, keysO ds = some kvs → RepPr K ρ H ds ps → ∃ qs : List (Key × V), ps = qs.map (fun kv => (kV kv.1, kv.2)) ∧ RepP K ρ H kvs qs
  | [], ps, kvs, h, r => by cases h; exact ⟨[], r, by unfold RepP; rfl⟩
  | (a, b) :: ds, ps, kvs, h, r => by
    obtain ⟨x, y, q, ep, h1, h2, h3⟩ := r
    unfold keysO mapO at h
    split at h
    · rename_i kv rest e1 e2
      cases h
      obtain ⟨k, ek, rfl⟩ := Option.map_eq_some_iff.mp e1
      obtain ⟨qs, e3, h4⟩ := keys_of e2 h3
      have := key_rep ek h1
      subst this
      exact ⟨(k, y) :: qs, by rw [ep, e3]; rfl, y, qs, rfl, h2, h4⟩
    · cases h
theorem merge_rep : ∀ {more : List (Key × D)} {ms : List (Key × V)} {kvs : List (Key × D)} {ps : List (Key × V)}, RepP K ρ H more ms → RepP K ρ H kvs ps → RepP K ρ H (mergeD kvs more) (mergeK ps ms)
  | [], ms, kvs, ps, h, r => by unfold RepP at h; rw [h]; exact r
  | (k, d) :: more, ms, kvs, ps, h, r => by
    unfold RepP at h
    obtain ⟨v, q, rfl, h1, h2⟩ := h
    show RepP K ρ H (mergeD (dPut kvs k d) more) (mergeK (putK ps k v) q)
    exact merge_rep h2 (put_rep h1 r)
theorem mdict {ks : List (Option Expr)} {vs : List Expr} {r : MP} (h : PD X cA W pos ks vs r) (hall : ks.all (·.isSome) = true := by rfl) (hl : ks.length = vs.length := by rfl) (h0 : ks ≠ [] := by exact fun z => by cases z) (h15 : ks.length ≤ 15 := by decide) :
    PE X (.Dict ks vs pos) (tE X.K cA W (dictE r)) := by
  obtain ⟨trs, h1, h2⟩ := h.ex
  refine (pe_disp h1 hall hl h0 h15).imp fun σ H Q h => ?_
  intro p hp
  obtain ⟨ρ, S, l, hS, hl, h⟩ := h
  have E1 : Ext ρ H (ρ ++ [p]) (upd H p (.dK [])) := Ext.alloc hp
  have hS1 : Reps X.K cA (ρ ++ [p]) (upd H p (.dK [])) (S ++ [.dct []]) := (hS.new hp).push (hS.free hp) ⟨[], upd_same, by unfold RepP; rfl⟩
  refine h2 _ _ _ ⟨ρ ++ [p], S ++ [.dct []], l, hS1, hl.ext E1, (After.step (rep := rPr X.K) h E1).imp fun ps H2 hq => ?_⟩
  obtain ⟨ρ2, S2, ds, e2, hS2, hr, h⟩ := hq
  split at h
  · rename_i kvs ek
    split at h
    · rename_i h15'
      split at h
      · rename_i e3
        have hrp : ρ2[S.length]? = some p := by
          obtain ⟨r, er, _⟩ := e2.pre
          rw [er, List.getElem?_append_left (by rw [List.length_append, hS.len]; exact Nat.lt_succ_self _), ← hS.len, List.getElem?_append_right (Nat.le_refl _)]
          simp
        obtain ⟨ps0, h3, h4⟩ := hS2.at_ _ _ p (dctAt_some e3) hrp
        unfold RepP at h4
        subst h4
        obtain ⟨qs, eq, h5⟩ := keys_of ek hr
        refine ⟨h3, qs, eq, by rw [← c_lenV.len_repP h5] at h15'; exact h15', ?_⟩
        have EW : Ext ρ2 H2 ρ2 (upd H2 p (.dK (mergeK [] qs))) := Ext.write hrp h3 True.intro
        refine h ρ2 _ _ ((E1.trans e2).trans EW) (hS2.write hrp h3 True.intro ⟨_, upd_same, ?_⟩) ?_
        · exact (merge_rep h5 (by unfold RepP; rfl)).ext EW
        · show RepV X.K ρ2 _ (.ref S.length) (.ref p)
          unfold RepV
          exact ⟨p, hrp, rfl⟩
      · exact h.elim
    · exact h.elim
  · exact h.elim
theorem mdict0 : PE X (.Dict [] [] pos) (tE X.K cA W dict0) := pe_dnewK.imp fun σ H Q h => by
  obtain ⟨ρ, S, l, hS, hl, h⟩ := h
  exact fun p hp => After.new h hS hp ⟨[], upd_same, by unfold RepP; rfl⟩
end

/-! ### two new lists -/
def eqLs (S : Store) (xs ys : List D) : Option Bool := match mapO (toPy S 63) xs, mapO (toPy S 63) ys with
  | some ps, some qs => if SeqAt.shaped (.list ps) = true ∧ SeqAt.shaped (.list qs) = true then some (PyData.eqv (.list ps) (.list qs)) else none
  | _, _ => none
def eqN (m n : MA) : MB := fun l S => (m l S).bind fun xs S1 => (n l S1).bind fun ys S2 => match eqLs S2 xs ys with
  | some b => .ok b S2
  | none => .bad
def neN (m n : MA) : MB := fun l S => (m l S).bind fun xs S1 => (n l S1).bind fun ys S2 => match eqLs S2 xs ys with
  | some b => .ok (!b) S2
  | none => .bad
section
variable {X : Cx} {cA : Nat → Addr} {W : XK} {pos : Pos} {a b : Expr} {m n : MA}
theorem eqLs_rep {K : PySem.W.Frag} {ρ : List Addr} {H : Hp} {S : Store} {H0 H1 : Hp} (hS : Reps K cA ρ H S) {xs ys : List D} {x y : V} {t : Bool} (h1 : rNew K H0 ρ H xs x) (h2 : rNew K H1 ρ H ys y) (h : eqLs S xs ys = some t) :
    ∃ p q, Dp K H x p ∧ Dp K H y q ∧ SeqAt.shaped p = true ∧ SeqAt.shaped q = true ∧ t = PyData.eqv p q := by
  unfold eqLs at h
  split at h
  · rename_i ps qs e1 e2
    split at h
    · rename_i hz
      cases h
      obtain ⟨a, vs, rfl, _, _, h3, h4⟩ := h1
      obtain ⟨b, ws, rfl, _, _, h5, h6⟩ := h2
      exact ⟨.list ps, .list qs, .lst (SqL.of h3) (toPy_rep.all hS _ _ _ _ e1 h4), .lst (SqL.of h5) (toPy_rep.all hS _ _ _ _ e2 h6), hz.1, hz.2, rfl⟩
    · cases h
  · cases h
theorem eqN_of {f : Option Bool → Option Bool} {g : Bool → Bool} {σ : L2.St} {H : Hp} {Q : Bool → Hp → Prop} (h : tT X.K cA W (fun l S => (m l S).bind fun xs S1 => (n l S1).bind fun ys S2 => match eqLs S2 xs ys with
    | some b => .ok (g b) S2
    | none => .bad) σ H Q) : tNw X.K cA W m σ H fun x H1 => tNw X.K cA W n σ H1 fun y H2 => ∃ p q, Dp X.K H2 x p ∧ Dp X.K H2 y q ∧ SeqAt.shaped p = true ∧ SeqAt.shaped q = true ∧ Q (g (PyData.eqv p q)) H2 :=
  tG.imp (bind2 (rep1 := rNew X.K) (rep2 := rNew X.K) st_Id mo_New h) fun x H1 h => tG.imp h fun y H2 h => by
    obtain ⟨ρ, S, xs, ys, hS, h1, h2, h⟩ := h
    split at h
    · rename_i t et
      obtain ⟨p, q, k1, k2, k3, k4, rfl⟩ := eqLs_rep hS h1 h2 et
      exact ⟨p, q, k1, k2, k3, k4, After.same (rep := rId) h hS rfl⟩
    · exact h.elim
theorem meqN (hu : X.A.units + 64 < cLine) (ha : PE X a (tNw X.K cA W m)) (hb : PE X b (tNw X.K cA W n)) : PE X (.Compare a [.Eq] [b] pos) (tE X.K cA W (toV (eqN m n))) :=
  (pe_cmpR (op_eqD hu) ha hb (nomark _)).imp fun σ H Q h => eqN_of (f := id) (g := id) (tE_toV h)
theorem mneN (hu : X.A.units + 64 < cLine) (ha : PE X a (tNw X.K cA W m)) (hb : PE X b (tNw X.K cA W n)) : PE X (.Compare a [.NotEq] [b] pos) (tE X.K cA W (toV (neN m n))) :=
  (pe_cmpR (op_neD hu) ha hb (nomark _)).imp fun σ H Q h => eqN_of (f := id) (g := not) (tE_toV h)
theorem meqNT (hu : X.A.units + 64 < cLine) (ha : PE X a (tNw X.K cA W m)) (hb : PE X b (tNw X.K cA W n)) : PT X (.Compare a [.Eq] [b] pos) (tT X.K cA W (eqN m n)) :=
  (pt_cmpR (op_eqD hu) ha hb (nomark _)).imp fun σ H Q h => tG.imp (eqN_of (f := id) (g := id) h) fun x H1 h => tG.imp h fun y H2 ⟨p, q, k1, k2, k3, k4, k5⟩ => ⟨p, q, k1, k2, k3, k4, _, rfl, k5⟩
theorem mneNT (hu : X.A.units + 64 < cLine) (ha : PE X a (tNw X.K cA W m)) (hb : PE X b (tNw X.K cA W n)) : PT X (.Compare a [.NotEq] [b] pos) (tT X.K cA W (neN m n)) :=
  (pt_cmpR (op_neD hu) ha hb (nomark _)).imp fun σ H Q h => tG.imp (eqN_of (f := id) (g := not) h) fun x H1 h => tG.imp h fun y H2 ⟨p, q, k1, k2, k3, k4, k5⟩ => ⟨p, q, k1, k2, k3, k4, _, rfl, k5⟩
end

/-! ### list(range(..)) -/
def rngO (a b : Int) (S : Store) : R (List D) := if -(2 ^ 62) ≤ a ∧ a < 2 ^ 62 ∧ -(2 ^ 62) ≤ b ∧ b < 2 ^ 62 ∧ (b - a).toNat ≤ 2 ^ 24 then .ok (intsFrom a (b - a).toNat) S else .bad
def rngN1 (m : ME) : MA := fun l S => (m l S).bind fun d S1 => match intO d with
  | some b => rngO 0 b S1
  | none => .bad
def rngN2 (m n : ME) : MA := fun l S => (m l S).bind fun d S1 => (n l S1).bind fun e S2 => match intO d, intO e with
  | some a, some b => rngO a b S2
  | _, _ => .bad
section
variable {X : Cx} {cA : Nat → Addr} {W : XK} {pos p0 p1 p2 : Pos} {a b : Expr} {m n : ME}
theorem intO_rep {K : PySem.W.Frag} {ρ : List Addr} {H : Hp} {d : D} {v : V} {i : Int} (h : intO d = some i) (r : RepV K ρ H d v) : v = .int i := by
  cases d with
  | int j => cases h; unfold RepV at r; exact r
  | _ => cases h
theorem rg_rep {K : PySem.W.Frag} {ρ : List Addr} {H : Hp} {a b : Int} : RepVs K ρ H (intsFrom a (b - a).toNat) (rgV a b) := by
  have e1 : intsFrom a (b - a).toNat = ((List.range (b - a).toNat).map fun i => a + ((i : Nat) : Int)).map D.int := by unfold intsFrom; rw [List.map_map]; rfl
  have e2 : rgV a b = ((List.range (b - a).toNat).map fun i => a + ((i : Nat) : Int)).map V.int := by unfold rgV; rw [List.map_map]; rfl
  rw [e1, e2]
  exact RepVs.of_ints
theorem rng_of {ρ : List Addr} {H : Hp} {S : Store} {i j : Int} {Q : V → Hp → Prop} (hS : Reps X.K cA ρ H S) (h : After X.K cA W ρ H (rNew X.K) (rngO i j S) Q) : RgOk i j ∧ ∀ q, H q = none → Q (.ref q) (upd H q (.lst (rgV i j))) := by
  unfold rngO at h
  split at h
  · rename_i hz
    exact ⟨hz, fun q hq => After.fresh h hS hq rg_rep⟩
  · exact h.elim
theorem mrngN1 (hc : X.calm = true) (hg : Gl X "list") (hm : X.mg "list" = none) (hg2 : Gl X "range") (hm2 : X.mg "range" = none) (ha : PE X a (tE X.K cA W m)) (na : starEach [a] X.env = (false, eval a X.env) :: starEach [] X.env := by rfl)
    (nb : starEach [(.Call (.Name "range" p1) [a] [] p2 : Expr)] X.env = (false, eval (.Call (.Name "range" p1) [a] [] p2) X.env) :: starEach [] X.env := by rfl) : PE X (.Call (.Name "list" p0) [.Call (.Name "range" p1) [a] [] p2] [] pos) (tNw X.K cA W (rngN1 m)) :=
  (pe_listRg hc hg hm (prg_1 hg2 hm2 ha na) nb).imp fun σ H Q h => (bind1 (rep1 := rV X.K) st_New h).imp fun v H1 h => by
    obtain ⟨ρ, S, d, hS, hr, h⟩ := h
    split at h
    · rename_i i e
      exact ⟨i, intO_rep e hr, rng_of hS h⟩
    · exact h.elim
theorem mrngN2 (hc : X.calm = true) (hg : Gl X "list") (hm : X.mg "list" = none) (hg2 : Gl X "range") (hm2 : X.mg "range" = none) (ha : PE X a (tE X.K cA W m)) (hb : PE X b (tE X.K cA W n)) (na : starEach [a, b] X.env = (false, eval a X.env) :: starEach [b] X.env := by rfl) (nc : starEach [b] X.env = (false, eval b X.env) :: starEach [] X.env := by rfl)
    (nb : starEach [(.Call (.Name "range" p1) [a, b] [] p2 : Expr)] X.env = (false, eval (.Call (.Name "range" p1) [a, b] [] p2) X.env) :: starEach [] X.env := by rfl) (hp : (backTo p2 (starEach [b] X.env)).any (·.1) = false := by rfl) : PE X (.Call (.Name "list" p0) [.Call (.Name "range" p1) [a, b] [] p2] [] pos) (tNw X.K cA W (rngN2 m n)) :=
  (pe_listRg hc hg hm (prg_2 hg2 hm2 ha hb na nc hp) nb).imp fun σ H Q h => tG.imp (bind2 (rep1 := rV X.K) (rep2 := rV X.K) st_New mo_V h) fun v H1 h => tG.imp h fun u H2 h => by
    obtain ⟨ρ, S, d, e, hS, hr, hr2, h⟩ := h
    split at h
    · rename_i i j e1 e2
      exact ⟨i, j, intO_rep e1 hr, intO_rep e2 hr2, rng_of hS h⟩
    · exact h.elim
end
end ML

set_option Elab.async false
set_option linter.all false
set_option maxRecDepth 100000
set_option autoImplicit false
/-! ML12: raise, try .. except C as e, isinstance of what is caught. -/
namespace ML
open PySem PySem.Spec L2

/-! ### what is not covered (and not reached) -/
def badS : MS := fun _ _ => .bad
theorem sbad {X : Cx} {cA : Nat → Addr} {W : XK} {st : Stmt} : PS X st (tS X.K cA W badS) := ⟨fun pins s σ H E I h => by obtain ⟨ρ, S, l, _, _, h⟩ := h; exact h.elim⟩

/-! ### raise -/
def raiseS (k : Nat) : MS := fun _ S => .ex ⟨k, []⟩ S
/-- a class of the text that is an exception, made with a text -/
structure ExcK (K : PySem.W.Frag) (mg : Str → Option Value) (x : Str) (C : Addr) : Prop where
  g : mg x = some (.ref C)
  q : PySem.W.excIn K C [.type "ValueError", .type "Exception", .type "BaseException", .type "object"] "ValueError.__new__" = true
  k : PySem.W.keepIn K (.ref C) = true
  s : PySem.W.subIn K (.ref C) (.type "BaseException") = some true
  t : PySem.W.typeIn K (.ref C) = some (.type "type")
section
variable {X : Cx} {cA : Nat → Addr} {W : XK} {K : PySem.W.Frag}
theorem sraise {x m : Str} {j k : Nat} {p p2 pos pos2 : Pos} (E : ExcK X.K X.mg x (cA k)) (tk : Takes X (fun cls d _ H => W cls d H)) (hc : X.calm = true) (hg : Gl X x) (hdb : (x == ("__debug__" : Str)) = false := by decide) :
    PS X (.Raise (some (.Call (.Name x p) [.Constant (.str m) j p2] [] pos)) none pos2) (tS X.K cA W (raiseS k)) :=
  (ps_raise (W := fun cls d _ H => W cls d H) hc tk (pmk_own PySem.F.excBase_ValueError E.q E.g E.k (raises_own E.s E.t) hg hdb)).imp fun D σ H h => by
    obtain ⟨ρ, S, l, hS, hl, h⟩ := h
    exact h ρ H _ _ (Ext.refl _ _) hS ⟨rfl, .inl ⟨rfl, rfl⟩⟩
end

/-! ### in a try's body: the wish may look at the slots -/
def tX (K : PySem.W.Frag) (cA : Nat → Addr) (W : WX) (m : MS) : TS := fun D σ H => tS K cA (L2.WE W σ) m D σ H
def tEX (K : PySem.W.Frag) (cA : Nat → Addr) (W : WX) (m : ME) : TE := fun σ H Q => tE K cA (L2.WE W σ) m σ H Q
section
variable {X : Cx} {cA : Nat → Addr} {W : WX} {p pos : Pos} {x : Str} {e c : Expr} {es : List Expr} {m : MA} {me : ME} {k j n : Nat} {G : List D → Store → R D} {st : Stmt} {rest : List Stmt} {ma mb : MS} {q : MB}
theorem xof (h : ∀ W0 : XK, PE X e (tE X.K cA W0 me)) : PE X e (tEX X.K cA W me) := ⟨fun pins s σ H Q I q => (h (L2.WE W σ)).run pins s σ H Q I q⟩
theorem xcall (F : FnM X.prog X.w X.K X.mg X.base cA k x n G) (hk : k ≤ j) (hr : Room j X.A) (tk : Takes X W) (hg : Gl X x) (ha : ∀ W0 : XK, PA X (e :: es) (tAs X.K cA W0 m)) (hdb : (x == ("__debug__" : Str)) = false := by decide)
    (he : starEach (e :: es) X.env = (false, eval e X.env) :: starEach es X.env := by rfl) (hpl : (backTo pos (starEach es X.env)).any (·.1) = false := by rfl) : PE X (.Call (.Name x p) (e :: es) [] pos) (tEX X.K cA W (callE n G m)) := by
  obtain ⟨f, fd, ps, hm, hkp, hb, FF⟩ := F.ex
  have hA : PA X (e :: es) (fun σ H Q => tAs X.K cA (L2.WE W σ) m σ H Q) := ⟨fun pos pins s σ H Q I q => (ha (L2.WE W σ)).run pos pins s σ H Q I q⟩
  exact (pe_callS FF (hr.mono hk) hg hm hkp hb (fun σ => passAt tk σ) hA hdb he hpl).imp fun σ H Q h => call_of h
theorem xexpr (he : PE X e (tEX X.K cA W me)) (hs : swapsWith e none pos.line X.env = pure false := by rfl) : PS X (.Expr e pos) (tX X.K cA W (exprS me)) :=
  (ps_expr he hs).imp fun E σ H h => (after_L (W := L2.WE W σ) (rep := rV X.K) h).imp fun v H1 h => by
    obtain ⟨ρ, S, l, d, hS, hl, _, h⟩ := h
    exact After.same (b := (FlV.nx, σ)) h hS ⟨hl, trivial⟩
theorem xret (he : PE X e (tEX X.K cA W me)) : PS X (.Return (some e) pos) (tX X.K cA W (retS me)) :=
  (ps_ret he).imp fun E σ H h => (after_L (W := L2.WE W σ) (rep := rV X.K) h).imp fun v H1 h => by
    obtain ⟨ρ, S, l, d, hS, hl, hr, h⟩ := h
    exact After.same (b := (FlV.rt v, σ)) h hS ⟨hl, hr⟩
theorem xone (h1 : PS X st (tX X.K cA W ma)) : PSs X [st] (tX X.K cA W ma) := pss_one h1
theorem xif {a b : List Stmt} (hc : ∀ W0 : XK, PT X c (tT X.K cA W0 q)) (ha : PSs X a (tX X.K cA W ma)) (hb : PSs X b (tX X.K cA W mb)) : PS X (.If c a b pos) (tX X.K cA W (ifS q ma mb)) := by
  have hC : PT X c (fun σ H Q => tT X.K cA (L2.WE W σ) q σ H Q) := ⟨fun pins s σ H Q I q => (hc (L2.WE W σ)).run pins s σ H Q I q⟩
  exact (ps_if hC ha hb).imp fun E σ H h => (after_L (W := L2.WE W σ) (rep := rId) h).imp fun t H1 h => by
    obtain ⟨ρ, S, l, d, hS, hl, hr, h⟩ := h
    subst hr
    cases d with
    | true => exact ⟨ρ, S, l, hS, hl, h⟩
    | false => exact ⟨ρ, S, l, hS, hl, h⟩
end

/-! ### try .. except C as e -/
def goneS (i : Nat) (r : R (Fl × Loc)) : R (Fl × Loc) := r.bind fun p S => .ok (p.1, p.2.set i none) S
open Classical in
noncomputable def same {α : Type} (f : Addr → R α) : R α := if h : ∃ r, ∀ a, f a = r then h.choose else .bad
theorem same_of {α : Type} {f : Addr → R α} {r : R α} (h : ∀ a, f a = r) : same f = r := by
  unfold same
  have e : ∃ r, ∀ a, f a = r := ⟨r, h⟩
  rw [dif_pos e]
  exact (e.choose_spec 0).symm.trans (h 0)
theorem same_at {α : Type} {f : Addr → R α} (a : Addr) : same f = f a ∨ same f = .bad := by
  unfold same
  split
  · rename_i h
    exact .inl (h.choose_spec a).symm
  · exact .inr rfl
noncomputable def catchS (hit : Nat → Option Bool) (i : Nat) (mb : MS) (mh : Addr → Exn → MS) : MS := fun l S => match mb l S with
  | .ok p S1 => .ok p S1
  | .ex x S1 => match hit x.c with
    | some true => same fun a => (goneS i (mh a x (l.set i (some (.exn a))) S1)).noex
    | some false => .ex x S1
    | none => .bad
  | .bad => .bad
def NoX : XK := fun _ _ _ => False
section
variable {K : PySem.W.Frag} {cA : Nat → Addr} {W : XK} {ρ : List Addr} {H : Hp}
theorem RepL.gone {l : Loc} {σ : L2.St} (h : RepL K ρ H l σ) (i : Nat) : RepL K ρ H (l.set i none) (σ.set i none) := by
  refine ⟨by rw [List.length_set, List.length_set]; exact h.len, fun j e hj => ?_⟩
  by_cases q : i = j
  · subst q
    have hi : i < l.length := by
      have := (List.getElem?_eq_some_iff.mp hj).1
      rwa [List.length_set] at this
    rw [List.getElem?_set_self hi] at hj
    cases hj
  · rw [List.getElem?_set_ne q] at hj
    obtain ⟨w, hw, r⟩ := h.at_ j e hj
    exact ⟨w, by rw [List.getElem?_set_ne q]; exact hw, r⟩
theorem gone_of {i : Nat} {r : R (Fl × Loc)} {D : Ends} (h : After K cA W ρ H (rS K) (goneS i r).noex (endQ D)) :
    After K cA NoX ρ H (rS K) r (endQ { nx := fun σ' H' => D.nx (σ'.set i none) H', rt := D.rt, bk := fun σ' H' => D.bk (σ'.set i none) H', ct := fun σ' H' => D.ct (σ'.set i none) H' }) := by
  cases r with
  | ok p S =>
    intro ρ' H' b e hs hr
    obtain ⟨hl, hf⟩ := hr
    obtain ⟨f, l⟩ := p
    obtain ⟨g, σ⟩ := b
    cases f with
    | nx => cases g with
      | nx => exact h ρ' H' (FlV.nx, σ.set i none) e hs ⟨hl.gone i, trivial⟩
      | _ => exact hf.elim
    | rt d => cases g with
      | rt v => exact h ρ' H' (FlV.rt v, σ.set i none) e hs ⟨hl.gone i, hf⟩
      | _ => exact hf.elim
    | bk => cases g with
      | bk => exact h ρ' H' (FlV.bk, σ.set i none) e hs ⟨hl.gone i, trivial⟩
      | _ => exact hf.elim
    | ct => cases g with
      | ct => exact h ρ' H' (FlV.ct, σ.set i none) e hs ⟨hl.gone i, trivial⟩
      | _ => exact hf.elim
  | ex x S => exact h.elim
  | bad => exact h.elim
variable {X : Cx} {x n : Str} {c : Value} {i : Nat} {body suite : List Stmt} {b₀ : Stmt} {np pos pos' : Pos} {mb : MS} {mh : Addr → Exn → MS} {hit : Nat → Option Bool}
theorem stry (hh : ∀ k b, hit k = some b → PySem.W.exmOne X.K (.ref (cA k)) c = some b) (hN : X.N.Nodup) (hi : X.N[i]? = some n) (hc : Names X x c) (tk : Takes X (fun cls d _ H => W cls d H))
    (hb : ∀ (W' : WX) (pn : List (Addr × Obj)) (xe : Value → Shared → Prop), Takes (X.tr pn xe) W' → PassesOwn (model X.prog X.w) X.A X.env xe → PSs (X.tr pn xe) body (tX X.K cA W' mb))
    (hsu : ∀ (a : Addr) (oe : Obj) (pn : List (Addr × Obj)) (z : Exn) (d : Option Addr), Zc (.ref (cA z.c)) d oe → (z.fs = [] → d = none) → (∃ vs, oe.data = .fields vs) → PSs (X.suite a ((a, oe) :: pn)) (b₀ :: suite) (tS X.K cA NoX (mh a z)))
    (hs : X.stack = X.env :: X.outer := by rfl) (hf : X.env.frame = some X.env.locals := by rfl) (hln : X.env.kindOf n = some .local := by rfl) :
    PS X (.Try body [.ExceptHandler (some (.Name x np)) (some n) (b₀ :: suite) pos'] [] [] pos) (tS X.K cA W (catchS hit i mb mh)) := by
  refine (ps_try_as (Wout := fun cls d _ H => W cls d H) (tb := fun W' => tX X.K cA W' mb) (ts := fun a cls d D σ H => ∃ z : Exn, cls = .ref (cA z.c) ∧ (z.fs = [] → d = none) ∧ tS X.K cA NoX (mh a z) D σ H) hs hf hN hi hln hc tk hb
    (fun a oe cls d pn hz hv => ⟨fun pins s σ H D I h => ?_⟩)).imp fun D σ H h => ?_
  · obtain ⟨z, rfl, h1, h2⟩ := h
    exact (hsu a oe pn z d hz h1 hv).run pins s σ H D I h2
  · obtain ⟨ρ, S, l, hS, hl, h⟩ := h
    refine ⟨ρ, S, l, hS, hl, ?_⟩
    unfold catchS at h
    generalize mb l S = r at h
    cases r with
    | ok p S1 => exact h
    | bad => exact h.elim
    | ex z S1 =>
      intro ρ' H' cls d e hS' hx
      obtain ⟨rfl, hx⟩ := hx
      simp only at h
      cases eh : hit z.c with
      | none => rw [eh] at h; exact h.elim
      | some b =>
        rw [eh] at h
        cases b with
        | false =>
          refine ⟨false, hh _ _ eh, fun q => ?_, fun _ => h ρ' H' _ _ e hS' ⟨rfl, hx⟩⟩
          cases q
        | true =>
          refine ⟨true, hh _ _ eh, fun _ a ha => ⟨z, rfl, fun q => ?_, ?_⟩, fun q => nomatch q⟩
          · rcases hx with ⟨_, h2⟩ | ⟨h2, _⟩
            · exact h2
            · exact absurd q h2
          · refine ⟨ρ', S1, l.set i (some (.exn a)), hS', (hl.ext e).set (by unfold RepV; rfl) i, ?_⟩
            rcases same_at (f := fun a => (goneS i (mh a z (l.set i (some (.exn a))) S1)).noex) a with q | q
            · have h := After.back st_S e h
              simp only at h
              rw [q] at h
              exact gone_of h
            · simp only at h
              rw [q] at h
              exact h.elim
end
/-! ### isinstance of what is caught -/
inductive CN where
  | own (j : Nat) | ty (n : String)
def CN.val (cA : Nat → Addr) : CN → Value
  | .own j => .ref (cA j)
  | .ty n => .type n
def CN.v (cA : Nat → Addr) : CN → V
  | .own j => .ref (cA j)
  | .ty n => .ty n
theorem CN.clsv {cA : Nat → Addr} : ∀ n : CN, ClsV (n.v cA) (n.val cA)
  | .own j => .own _
  | .ty n => .ty _
theorem CN.all {cA : Nat → Addr} : ∀ ns : List CN, Paired ClsV (ns.map (CN.v cA)) (ns.map (CN.val cA))
  | [] => .nil
  | n :: ns => .cons n.clsv (CN.all ns)
def IsFacts (K : PySem.W.Frag) (cA : Nat → Addr) (kis : Nat → CN → Option Bool) : Prop := ∀ c n b, kis c n = some b → ExcC K (cA c) ∧ PySem.W.kitOne K (.ref (cA c)) (n.val cA) = some b
def kisX (kis : Nat → CN → Option Bool) (z : Exn) (n : CN) : Option Bool := match z.fs with
  | [] => kis z.c n
  | _ => none
def kisA (kis : Nat → CN → Option Bool) (z : Exn) : List CN → Option Bool
  | [] => some false
  | n :: r => match kisX kis z n with
    | some true => some true
    | some false => kisA kis z r
    | none => none
def isX (ans : Option Bool) (a : Addr) (m : ME) : MB := match ans with
  | none => fun _ _ => .bad
  | some t => fun l S => (m l S).bind fun d S1 => match d with
    | .exn b => if b = a then .ok t S1 else .bad
    | _ => .bad
theorem kit_own {K : PySem.W.Frag} {C D : Addr} {b : Bool} (h : PySem.W.subIn K (.ref D) (.ref C) = some b) (hd : PySem.W.hasDictIn K C = true) (ht : PySem.W.typeIn K (.ref C) = some (.type "type")) (hs : PySem.W.subIn K (.ref D) (.ref D) = some true) : PySem.W.kitOne K (.ref D) (.ref C) = some b := by
  unfold PySem.W.kitOne
  by_cases q : D = C
  · subst q
    rw [hs] at h
    rw [if_pos (beq_self_eq_true _)]
    exact h
  · rw [if_neg (fun z => q (Value.ref.inj (beq_iff_eq.mp z)))]
    obtain ⟨cd, hc, _⟩ := PySem.W.any_some hd
    show (if ((PySem.W.clsIn K C).isSome && PySem.W.typeIn K (.ref C) == some (.type "type")) = true then PySem.W.subIn K (.ref D) (.ref C) else none) = some b
    rw [hc, ht, if_pos (by rw [Option.isSome_some, Bool.true_and]; exact beq_self_eq_true _)]
    exact h
theorem kit_bt {K : PySem.W.Frag} {D : Addr} {T : String} {b : Bool} (h : PySem.W.subIn K (.ref D) (.type T) = some b) (hm : PySem.W.kitMeta T = true) : PySem.W.kitOne K (.ref D) (.type T) = some b := by
  unfold PySem.W.kitOne
  have ne : ¬ (Value.ref D == Value.type T) = true := fun z => by
    have := beq_iff_eq.mp z
    cases this
  rw [if_neg ne]
  show (if PySem.W.kitMeta T = true then PySem.W.subIn K (.ref D) (.type T) else none) = some b
  rw [if_pos hm]
  exact h
section
variable {X : Cx} {cA : Nat → Addr} {W : XK} {K : PySem.W.Frag} {kis : Nat → CN → Option Bool} {z : Exn}
theorem kisX_of {n : CN} {b : Bool} (F : IsFacts K cA kis) (h : kisX kis z n = some b) : z.fs = [] ∧ ExcC K (cA z.c) ∧ PySem.W.kitOne K (.ref (cA z.c)) (n.val cA) = some b := by
  unfold kisX at h
  split at h
  · rename_i e; exact ⟨e, F _ _ _ h⟩
  · cases h
theorem kisA_of (F : IsFacts K cA kis) : ∀ {ns : List CN} {b : Bool}, kisA kis z ns = some b → PySem.W.kitAny K (.ref (cA z.c)) (ns.map (CN.val cA)) = some b
  | [], b, h => h
  | n :: ns, b, h => by
    unfold kisA at h
    show (match PySem.W.kitOne K (.ref (cA z.c)) (n.val cA) with
      | some true => some true
      | some false => PySem.W.kitAny K (.ref (cA z.c)) (ns.map (CN.val cA))
      | none => none) = some b
    split at h
    · rename_i e
      rw [(kisX_of F e).2.2]
      exact h
    · rename_i e
      rw [(kisX_of F e).2.2]
      exact kisA_of F h
    · cases h
theorem kisA_ex (F : IsFacts K cA kis) {n : CN} {ns : List CN} {b : Bool} (h : kisA kis z (n :: ns) = some b) : z.fs = [] ∧ ExcC K (cA z.c) := by
  unfold kisA at h
  split at h
  · rename_i e; exact ⟨(kisX_of F e).1, (kisX_of F e).2.1⟩
  · rename_i e; exact ⟨(kisX_of F e).1, (kisX_of F e).2.1⟩
  · cases h
/-- the names of classes as they stand -/
theorem cown {x : Str} {j : Nat} {p : Pos} (hm : X.mg x = some (.ref (cA j))) (hg : Gl X x) (hd : (x == ("__debug__" : Str)) = false := by decide) : PE X (.Name x p) (tC ((CN.own j).v cA)) := pe_glob (v := .ref (cA j)) hg hm rfl hd
theorem cty {x : Str} {n : String} {p : Pos} (hm : X.mg x = none) (hv : bootBuiltins x = some (.type n)) (hg : Gl X x) (hn : x ≠ "__name__" := by decide) (hd : (x == ("__debug__" : Str)) = false := by decide) : PE X (.Name x p) (tC ((CN.ty n).v cA)) := pe_bltn (v := .ty n) hg hm hv rfl hn hd
def tVs (vs : List V) : TA := fun _ H Q => Q vs H
theorem vnil : PA X [] (tVs []) := pa_nil
theorem vcons {e : Expr} {es : List Expr} {v : V} {vs : List V} (h : PE X e (tC v)) (r : PA X es (tVs vs)) (hs : starEach (e :: es) X.env = (false, eval e X.env) :: starEach es X.env := by rfl) : PA X (e :: es) (tVs (v :: vs)) := pa_cons h r hs
variable {a : Addr} {oe : Obj} {pn : List (Addr × Obj)} {d : Option Addr} {pos p0 p1 : Pos} {e : Expr} {m : ME} {x : Str}
theorem misE {ec : Expr} {n : CN} (F : IsFacts X.K cA kis) (hz : Zc (.ref (cA z.c)) d oe) (hd : z.fs = [] → d = none) (hf : ∃ vs, oe.data = .fields vs) (ha : PE (X.suite a ((a, oe) :: pn)) e (tE X.K cA W m)) (hcn : PE (X.suite a ((a, oe) :: pn)) ec (tC (n.v cA)))
    (hg : Gl X "isinstance") (hm : X.mg "isinstance" = none) (hv : bootBuiltins "isinstance" = some (.builtin "isinstance") := by decide +kernel)
    (hs2 : starEach [ec] X.env = (false, eval ec X.env) :: starEach [] X.env := by rfl) (hs : starEach [e, ec] X.env = (false, eval e X.env) :: starEach [ec] X.env := by rfl)
    (hpl : (backTo pos (starEach [ec] X.env)).any (·.1) = false := by rfl) : PE (X.suite a ((a, oe) :: pn)) (.Call (.Name "isinstance" p0) [e, ec] [] pos) (tE X.K cA W (toV (isX (kisX kis z n) a m))) := by
  cases hk : kisX kis z n with
  | none => exact ⟨fun pins s σ H Q I h => by obtain ⟨ρ, S, l, _, _, h⟩ := h; exact h.elim⟩
  | some b =>
    obtain ⟨k1, k2, k3⟩ := kisX_of F hk
    have hz' : Zc (.ref (cA z.c)) none oe := by rw [← hd k1]; exact hz
    exact (pe_callB (call_isE k2 hz' hf) hg hm hv (pa_cons ha (pa_cons hcn pa_nil hs2) hs) (by decide) (by decide) hs hpl).imp fun σ H Q h0 => by
      refine tG.imp (bind1 (rep1 := rV X.K) st_Id (tE_toV h0)) fun v H1 h => ?_
      obtain ⟨ρ, S, dd, hS, hr, h⟩ := h
      split at h
      · rename_i b'
        split at h
        · rename_i e
          subst e
          unfold rV RepV at hr
          subst hr
          exact ⟨n.v cA, n.val cA, b, rfl, fun u r => n.clsv.eq r, k3, After.same (Q := fun b H' => Q (.bl b) H') (rep := rId) h hS rfl⟩
        · exact h.elim
      · exact h.elim
/-- isinstance(e, (c1, ..)), e the exception that the suite holds -/
def rIsET (K : PySem.W.Frag) (D a : Addr) : List V → Hp → VK → Prop := fun xs H Q => ∃ (tp : Addr) (cs : List V) (us : List Value) (b : Bool), xs = [.ref a, .ref tp] ∧ H tp = some (.tup cs) ∧ Paired ClsV cs us ∧ PySem.W.kitAny K (.ref D) us = some b ∧ Q (.bl b) H
theorem call_isET {D : Addr} (C : ExcC X.K D) (hz : Zc (.ref D) none oe) (hf : ∃ vs, oe.data = .fields vs) : CallR (X.suite a ((a, oe) :: pn)) (.builtin "isinstance") (rIsET X.K D a) := by
  intro pins s σ H xs us Q I r h
  obtain ⟨tp, cs, ws, b, rfl, hT, k, e, q⟩ := h
  obtain ⟨u1, u2, rfl, r1, r2⟩ := vals2 r
  cases (show u2 = Value.ref tp from r2)
  cases (show u1 = Value.ref a from r1)
  obtain ⟨hget, _⟩ := I.pin (a, oe) (List.mem_append.mpr (.inl List.mem_cons_self))
  obtain ⟨vs, hv⟩ := hf
  have J : PySem.W.InstAt s.heap a oe D none := by
    obtain ⟨oc, od, oda, osl⟩ := oe
    obtain ⟨h1, h2⟩ := hz
    dsimp only at h1 h2 hv
    subst h1 h2 hv
    exact ⟨hget, rfl, rfl, trivial⟩
  obtain ⟨_, its, rv, o, h1, h2, n, h3⟩ := (show ObjOk X.prog X.w H s.heap tp (.tup cs) from I.hok tp _ hT)
  have e3 := ClsV.all k rv
  subst e3
  obtain ⟨oc, od, dt, sl⟩ := o
  simp only at h2 h3
  subst h2 h3
  exact PySem.W.kia_tup (PySem.W.handS_kitx_exc C.hg C.hk C.hs C.hd C.ha C.hn C.ht C.hm) I.kIn J h1 e (fun z => nomatch z) fun tk => ⟨.bl b, H, I.kept (t' := tk) fun _ _ z => z, rfl, q⟩
theorem misEt {es : List Expr} {k : Nat} {n : CN} {ns : List CN} {p2 : Pos} (F : IsFacts X.K cA kis) (hz : Zc (.ref (cA z.c)) d oe) (hd : z.fs = [] → d = none) (hf : ∃ vs, oe.data = .fields vs) (ha : PE (X.suite a ((a, oe) :: pn)) e (tE X.K cA W m)) (hcn : PA (X.suite a ((a, oe) :: pn)) es (tVs ((n :: ns).map (CN.v cA))))
    (hlen : (n :: ns).length ≤ sizeLine) (hg : Gl X "isinstance") (hm : X.mg "isinstance" = none) (hv : bootBuiltins "isinstance" = some (.builtin "isinstance") := by decide +kernel)
    (hs2 : starEach [(.Tuple es k p2 : Expr)] X.env = (false, eval (.Tuple es k p2) X.env) :: starEach [] X.env := by rfl) (hs : starEach [e, .Tuple es k p2] X.env = (false, eval e X.env) :: starEach [.Tuple es k p2] X.env := by rfl)
    (hpl : (backTo pos (starEach [(.Tuple es k p2 : Expr)] X.env)).any (·.1) = false := by rfl) : PE (X.suite a ((a, oe) :: pn)) (.Call (.Name "isinstance" p0) [e, .Tuple es k p2] [] pos) (tE X.K cA W (toV (isX (kisA kis z (n :: ns)) a m))) := by
  cases hk : kisA kis z (n :: ns) with
  | none => exact ⟨fun pins s σ H Q I h => by obtain ⟨ρ, S, l, _, _, h⟩ := h; exact h.elim⟩
  | some b =>
    obtain ⟨k1, k2⟩ := kisA_ex F hk
    have hz' : Zc (.ref (cA z.c)) none oe := by rw [← hd k1]; exact hz
    exact (pe_callB (call_isET k2 hz' hf) hg hm hv (pa_cons ha (pa_cons (pe_tup hcn) pa_nil hs2) hs) (by decide) (by decide) hs hpl).imp fun σ H Q h0 => by
      refine tG.imp (bind1 (rep1 := rV X.K) st_Id (tE_toV h0)) fun v H1 h => ?_
      obtain ⟨ρ, S, dd, hS, hr, h⟩ := h
      split at h
      · rename_i b'
        split at h
        · rename_i e
          subst e
          unfold rV RepV at hr
          subst hr
          refine ⟨by rw [List.length_map]; exact hlen, fun tp htp => ⟨tp, _, _, b, rfl, upd_same, CN.all (n :: ns), kisA_of F hk, ?_⟩⟩
          exact h ρ _ b (Ext.new htp) (hS.new htp) rfl
        · exact h.elim
      · exact h.elim
end
end ML

set_option Elab.async false
set_option linter.all false
set_option maxRecDepth 100000
set_option autoImplicit false
/-! ML10: the end of a law's row. -/
namespace ML
open PySem PySem.Spec L2
theorem FnM.mk' {P : Program} {w : World} {K : PySem.W.Frag} {mg : Str → Option Value} {base : Heap} {cA : Nat → Addr} {k n : Nat} {x qual : Str} {st : Stmt} {f : Addr} {fd : FuncData} {ps : List Str} {G : List D → Store → R D} (F : Fun K x qual st f fd) (hm : mg x = some (.ref f)) (b : Binds K fd ps []) (ok : FnOk P w K mg base (L2.CX P w) k f fd ps (spM K cA G n)) : FnM P w K mg base cA k x n G := ⟨⟨f, fd, ps, hm, F.kp, b, ok⟩⟩
/-- a law's promise, from what its function tells -/
theorem law_sp {n : Nat} {F : List D → Store → R D} (h : ∀ ns : List Int, ns.length ≤ n → ∃ S', F [.lis (ns.map D.int)] [] = .ok (.bl true) S') {K : PySem.W.Frag} {cA : Nat → Addr} {H : Hp} {a : Addr} {ns : List Int} (hn : ns.length ≤ n) (hO : Only H) (hS : SqL K H a (ns.map V.int)) :
    spM K cA F 1 [.ref a] H (fun v _ => v = .bl true) (fun _ _ _ => False) := by
  obtain ⟨S', e⟩ := h ns hn
  refine ⟨rfl, [], [], [.lis (ns.map D.int)], ⟨rfl, List.nodup_nil, fun n c a h => by simp at h⟩, ?_, ?_⟩
  · refine .cons ?_ .nil
    unfold RepV
    refine ⟨a, ns.map V.int, rfl, ?_, RepVs.of_ints⟩
    rcases hS with (hS | ⟨o, hS⟩) | hS
    · rcases hO a with z | ⟨o, xs, z⟩ <;> (rw [hS] at z; cases z)
    · exact .inl ⟨o, hS⟩
    · exact .inr hS
  · rw [e]
    intro ρ' H' v _ _ hv
    unfold rV RepV at hv
    exact hv
/-- the classes' addresses by number -/
def tabA (l : List Addr) : Nat → Addr := fun n => l.getD n 0
/-- a promise that does not name the classes -/
def spA (K : PySem.W.Frag) (F : List D → Store → R D) (n : Nat) : Sp := fun vs H Q E => ∀ cA : Nat → Addr, spM K cA F n vs H Q E
theorem spA_of {P : Program} {w : World} {K : PySem.W.Frag} {mg : Str → Option Value} {base : Heap} {cA : Nat → Addr} {k n : Nat} {f : Addr} {fd : FuncData} {ps : List Str} {F : List D → Store → R D} {CX : CXT} (h : FnOk P w K mg base CX k f fd ps (spM K cA F n)) : FnOk P w K mg base CX k f fd ps (spA K F n) :=
  ⟨fun vs H Q E q => h.len vs H Q E (q cA), fun A st s H args us vs Q E hr e b r q => h.run A st s H args us vs Q E hr e b r (q cA)⟩
theorem law_spA {n : Nat} {F : List D → Store → R D} (h : ∀ ns : List Int, ns.length ≤ n → ∃ S', F [.lis (ns.map D.int)] [] = .ok (.bl true) S') {K : PySem.W.Frag} {H : Hp} {a : Addr} {ns : List Int} (hn : ns.length ≤ n) (hO : Only H) (hS : SqL K H a (ns.map V.int)) :
    spA K F 1 [.ref a] H (fun v _ => v = .bl true) (fun _ _ _ => False) := fun _ => law_sp h hn hO hS
theorem cx_end {P : Program} {w : World} {H : Hp} {s : Shared} {e : Value} {s' : Shared} (h : L2.CX P w [] H s (fun _ _ _ => False) e s') : False := by
  obtain ⟨_, _, _, _, _, _, _, _, _, _, _, _, z⟩ := h
  exact z
end ML

set_option Elab.async false
set_option linter.all false
set_option maxRecDepth 100000
set_option autoImplicit false
/-! ML11: reckoning with the functions. -/
namespace ML
open PySem PySem.Spec L2

/-- a text of one sign -/
def sgn (c : Nat) : D := .str ⟨#[c]⟩
/-- the signs of a text -/
def cs (x : Str) : List Nat := TL.tl x
@[simp] theorem cs_one (c : Nat) : cs ⟨#[c]⟩ = [c] := (rfl)
theorem cs_of (s : String) : cs (Str.ofString s) = s.toList.map Char.toNat := TL.tl_ofString s
@[simp] theorem cs_app (x y : Str) : cs (x ++ y) = cs x ++ cs y := TL.tl_append x y
@[simp] theorem cs_len (x : Str) : (cs x).length = x.length := (TL.len_tl x).symm
theorem cs_ext {x y : Str} (h : cs x = cs y) : x = y := TL.ext_tl h
theorem cs_join (y : Str) (parts : List Str) : cs (Str.join y parts) = TL.joinL (cs y) (parts.map cs) := TL.tl_join y parts
theorem signs_tl (z : Str) : signsOf z = (cs z).map sgn := rfl
section
variable {m n o : ME} {l : Loc} {S : Store}
@[simp] theorem x_con (d : D) : conE d l S = .ok d S := (rfl)
@[simp] theorem x_var0 (d : D) (r : Loc) : varE 0 (some d :: r) S = .ok d S := (rfl)
@[simp] theorem x_varS (i : Nat) (a : Option D) (r : Loc) : varE (i + 1) (a :: r) S = varE i r S := by simp [varE]
@[simp] theorem x_bin (f : D → D → Store → R D) : binE f m n l S = (m l S).bind fun a S1 => (n l S1).bind (f a) := (rfl)
@[simp] theorem x_un (f : D → Store → R D) : unE f m l S = (m l S).bind f := (rfl)
@[simp] theorem x_cmp (f : D → D → Store → R Bool) : cmpM f m n l S = (m l S).bind fun a S1 => (n l S1).bind (f a) := (rfl)
@[simp] theorem x_toV (m : MB) : toV m l S = (m l S).bind fun b S1 => .ok (.bl b) S1 := (rfl)
@[simp] theorem x_chain (f g : D → D → Store → R Bool) : chainM f g m n o l S = (m l S).bind fun a S1 => (n l S1).bind fun b S2 => (f a b S2).bind fun t S3 => if t = true then (o l S3).bind (g b) else .ok false S3 := (rfl)
@[simp] theorem x_andM (m n : MB) : andM m n l S = (m l S).bind fun b S1 => if b = true then n l S1 else .ok false S1 := (rfl)
@[simp] theorem x_orM (m n : MB) : orM m n l S = (m l S).bind fun b S1 => if b = true then .ok true S1 else n l S1 := (rfl)
@[simp] theorem x_notM (m : MB) : notM m l S = (m l S).bind fun b S1 => .ok (!b) S1 := (rfl)
@[simp] theorem x_isBl (b : Bool) : isBl (.bl b) = some b := (rfl)
@[simp] theorem x_ofV : ofV m l S = (m l S).bind fun d S1 => match isBl d with
  | some b => .ok b S1
  | none => .bad := (rfl)
@[simp] theorem x_andV (p : MB) : andV p n l S = (p l S).bind fun b S1 => if b = true then n l S1 else .ok (.bl false) S1 := (rfl)
@[simp] theorem x_orV (p : MB) : orV p n l S = (p l S).bind fun b S1 => if b = true then .ok (.bl true) S1 else n l S1 := (rfl)
@[simp] theorem x_ifE (c : MB) : ifE c m n l S = (c l S).bind fun b S1 => if b = true then m l S1 else n l S1 := (rfl)
@[simp] theorem x_nilA : nilA l S = .ok [] S := (rfl)
@[simp] theorem x_consA (r : MA) : consA m r l S = (m l S).bind fun d S1 => (r l S1).bind fun ds S2 => .ok (d :: ds) S2 := (rfl)
@[simp] theorem x_tupE (r : MA) : tupE r l S = (r l S).bind fun ds S1 => if ds.length ≤ sizeLine then .ok (.tup ds) S1 else .bad := (rfl)
@[simp] theorem x_lstN (r : MA) : lstN r l S = (r l S).bind fun ds S1 => if ds.length ≤ sizeLine then .ok ds S1 else .bad := (rfl)
@[simp] theorem x_allocE (r : MA) : allocE r l S = (r l S).bind fun ds S1 => newC (.lst ds) S1 := (rfl)
@[simp] theorem x_newL {α : Type} (f : List D → Store → R α) (r : MA) : newL f r l S = (r l S).bind f := (rfl)
@[simp] theorem x_ofL {α : Type} (f : List D → Store → R α) : ofL f m l S = (m l S).bind fun d S1 => match lstOf S1 d with
  | some ds => f ds S1
  | none => .bad := (rfl)
@[simp] theorem x_isE (T : String) : isE T m l S = (m l S).bind fun d S1 => match kindO S1 d with
  | some t => .ok (isKind T t) S1
  | none => .bad := (rfl)
@[simp] theorem x_call (k : Nat) (G : List D → Store → R D) (r : MA) : callE k G r l S = (r l S).bind fun ds S1 => if ds.length = k then G ds S1 else .bad := (rfl)
@[simp] theorem x_slice (lo hi : MO) : sliceE m lo hi l S = (m l S).bind fun d S1 => (lo l S1).bind fun i S2 => (hi l S2).bind (sliceD d i) := (rfl)
@[simp] theorem x_noO : noO l S = .ok none S := (rfl)
@[simp] theorem x_someO : someO m l S = (m l S).bind fun d S1 => match intO d with
  | some i => .ok (some i) S1
  | none => .bad := (rfl)
@[simp] theorem x_intO (i : Int) : intO (.int i) = some i := (rfl)
@[simp] theorem x_strO (i : Str) : strO (.str i) = some i := (rfl)
@[simp] theorem x_fld (cs : List Nat) (f : Str) : fldE cs f m l S = (m l S).bind fun d S1 => match d with
  | .ref n => match insAt S1 n with
    | some (c, fs) => if c ∈ cs then (match fs.lookup f with
      | some x => .ok x S1
      | none => .bad) else .bad
    | none => .bad
  | _ => .bad := (rfl)
@[simp] theorem x_lmE (f : D → List D → Store → R D) (r : MA) : lmE f m r l S = (m l S).bind fun d S1 => if (lstOf S1 d).isSome = true then (r l S1).bind (f d) else .bad := (rfl)
@[simp] theorem x_joinN (r : MA) : joinN m r l S = (m l S).bind fun d S1 => match strO d with
  | some a => (r l S1).bind fun ds S2 => match mapO strO ds with
    | some ys => if (ys.map (·.length)).sum + ys.length * a.length ≤ 16777216 then .ok (.str (Str.join a ys)) S2 else .bad
    | none => .bad
  | none => .bad := (rfl)
@[simp] theorem x_yes : yesM l S = .ok true S := (rfl)
/-! statements -/
@[simp] theorem x_nilS : nilS l S = .ok (.nx, l) S := (rfl)
@[simp] theorem x_seqS (a b : MS) : seqS a b l S = (a l S).bind (thenS b) := (rfl)
@[simp] theorem x_then_nx (b : MS) (l : Loc) : thenS b (.nx, l) S = b l S := (rfl)
@[simp] theorem x_then_rt (b : MS) (d : D) (l : Loc) : thenS b (.rt d, l) S = .ok (.rt d, l) S := (rfl)
@[simp] theorem x_then_bk (b : MS) (l : Loc) : thenS b (.bk, l) S = .ok (.bk, l) S := (rfl)
@[simp] theorem x_then_ct (b : MS) (l : Loc) : thenS b (.ct, l) S = .ok (.ct, l) S := (rfl)
@[simp] theorem x_exprS : exprS m l S = (m l S).bind fun _ S1 => .ok (.nx, l) S1 := (rfl)
@[simp] theorem x_retS : retS m l S = (m l S).bind fun d S1 => .ok (.rt d, l) S1 := (rfl)
@[simp] theorem x_retN : retN l S = .ok (.rt .non, l) S := (rfl)
@[simp] theorem x_ifS (c : MB) (a b : MS) : ifS c a b l S = (c l S).bind fun t S1 => if t = true then a l S1 else b l S1 := (rfl)
@[simp] theorem x_breakS : breakS l S = .ok (.bk, l) S := (rfl)
@[simp] theorem x_contS : contS l S = .ok (.ct, l) S := (rfl)
@[simp] theorem x_setS (i : Nat) : setS i m l S = (m l S).bind fun d S1 => .ok (.nx, l.set i (some d)) S1 := (rfl)
@[simp] theorem x_asgS (t : MT) : asgS t m l S = (m l S).bind fun d S1 => (t d l S1).bind fun l1 S2 => .ok (.nx, l1) S2 := (rfl)
@[simp] theorem x_nameT (i : Nat) (d : D) : nameT i d l S = .ok (l.set i (some d)) S := (rfl)
@[simp] theorem x_subT (d : D) : subT m n d l S = (m l S).bind fun o S1 => (n l S1).bind fun i S2 => match setO S2 o i d with
  | some S3 => .ok l S3
  | none => .bad := (rfl)
@[simp] theorem x_forS (src : Loc → Store → R Sn) (t : MT) (b : MS) : forS src t b l S = (src l S).bind fun p S1 => forL p.2 t b p.1 l S1 := (rfl)
@[simp] theorem x_srcN (r : MA) : srcN r l S = (r l S).bind fun ds S1 => .ok (ds, still) S1 := (rfl)
@[simp] theorem x_srcV : srcV m l S = (m l S).bind srcD := (rfl)
@[simp] theorem x_srcR1 (r : MA) : srcR1 r l S = (r l S).bind rng1 := (rfl)
@[simp] theorem x_srcR2 (r : MA) : srcR2 r l S = (r l S).bind rng2 := (rfl)
@[simp] theorem x_compN (src : Loc → Store → R Sn) (t : Tgt) (c : MB) : compN src t c m l S = (src l S).bind fun p S1 => (compL p.2 t c m (wipeL l t.own) p.1 [] S1).noex := (rfl)
@[simp] theorem x_noex_ok {α : Type} (a : α) (S : Store) : (R.ok a S).noex = .ok a S := (rfl)
@[simp] theorem x_again_nx (b : MS) (l : Loc) : againS b (.nx, l) S = b l S := (rfl)
@[simp] theorem x_again_ct (b : MS) (l : Loc) : againS b (.ct, l) S = b l S := (rfl)
@[simp] theorem x_again_bk (b : MS) (l : Loc) : againS b (.bk, l) S = .ok (.nx, l) S := (rfl)
@[simp] theorem x_again_rt (b : MS) (d : D) (l : Loc) : againS b (.rt d, l) S = .ok (.rt d, l) S := (rfl)
@[simp] theorem x_eqN (r s : MA) : eqN r s l S = (r l S).bind fun xs S1 => (s l S1).bind fun ys S2 => match eqLs S2 xs ys with
  | some b => .ok b S2
  | none => .bad := (rfl)
@[simp] theorem x_neN (r s : MA) : neN r s l S = (r l S).bind fun xs S1 => (s l S1).bind fun ys S2 => match eqLs S2 xs ys with
  | some b => .ok (!b) S2
  | none => .bad := (rfl)
@[simp] theorem x_nilP : nilP l S = .ok [] S := (rfl)
@[simp] theorem x_consP (k v : ME) (r : MP) : consP k v r l S = (k l S).bind fun a S1 => (v l S1).bind fun b S2 => (r l S2).bind fun ps S3 => .ok ((a, b) :: ps) S3 := (rfl)
@[simp] theorem x_dictE (r : MP) : dictE r l S = (r l (S ++ [.dct []])).bind fun ps S1 => match keysO ps with
  | some kvs => if kvs.length ≤ 15 then (match dctAt S1 S.length with
    | some [] => .ok (.ref S.length) (S1.set S.length (.dct (mergeD [] kvs)))
    | _ => .bad) else .bad
  | none => .bad := (rfl)
@[simp] theorem x_bodyF (k : Nat) (b : MS) (ds : List D) : bodyF k b ds S = (b (startL k ds) S).bind fun p S1 => match p.1 with
  | .nx => .ok .non S1
  | .rt d => .ok d S1
  | _ => .bad := (rfl)
/-! values -/
@[simp] theorem x_addI (i j : Int) : addD (.int i) (.int j) S = .ok (.int (i + j)) S := (rfl)
@[simp] theorem x_addT (x y : Str) : addD (.str x) (.str y) S = if x.length + y.length ≤ sizeLine then .ok (.str (x ++ y)) S else .bad := (rfl)
@[simp] theorem x_addU (x y : List D) : addD (.tup x) (.tup y) S = if x.length + y.length ≤ sizeLine then .ok (.tup (x ++ y)) S else .bad := (rfl)
@[simp] theorem x_subI (i j : Int) : subD (.int i) (.int j) S = .ok (.int (i - j)) S := (rfl)
theorem mulOk_r {i j : Int} (h : j.natAbs < 18446744073709551616) : mulOk i j = true := by
  have e : ((2 : Int) ^ 64) = 18446744073709551616 := by decide +kernel
  unfold mulOk
  rw [e]
  simp
  right
  omega
theorem mulOk_l {i j : Int} (h : i.natAbs < 18446744073709551616) : mulOk i j = true := by
  have e : ((2 : Int) ^ 64) = 18446744073709551616 := by decide +kernel
  unfold mulOk
  rw [e]
  simp
  left
  omega
@[simp] theorem x_mulR {i j : Int} (h : j.natAbs < 18446744073709551616) : mulD (.int i) (.int j) S = .ok (.int (i * j)) S := if_pos (mulOk_r h)
@[simp] theorem x_mulL {i j : Int} (h : i.natAbs < 18446744073709551616) : mulD (.int i) (.int j) S = .ok (.int (i * j)) S := if_pos (mulOk_l h)
@[simp] theorem x_fdivI (i j : Int) : fdivD (.int i) (.int j) S = if 0 < j ∧ j < 1073741824 then .ok (.int (i / j)) S else .bad := (rfl)
@[simp] theorem x_modI (i j : Int) : modD (.int i) (.int j) S = if 0 < j then .ok (.int (i % j)) S else .bad := (rfl)
@[simp] theorem x_powI (i j : Int) : powD (.int i) (.int j) S = if 0 ≤ j ∧ j ≤ 1000000 ∧ i.natAbs < 2 ^ 64 then .ok (.int (i ^ j.toNat)) S else .bad := (rfl)
@[simp] theorem x_negI (i : Int) : negD (.int i) S = .ok (.int (-i)) S := (rfl)
@[simp] theorem x_ltI (i j : Int) : ltD (.int i) (.int j) S = .ok (decide (i < j)) S := (rfl)
@[simp] theorem x_leI (i j : Int) : leD (.int i) (.int j) S = .ok (decide (i ≤ j)) S := (rfl)
@[simp] theorem x_gtI (i j : Int) : gtD (.int i) (.int j) S = .ok (decide (j < i)) S := (rfl)
@[simp] theorem x_geI (i j : Int) : geD (.int i) (.int j) S = .ok (decide (j ≤ i)) S := (rfl)
@[simp] theorem x_leS (x y : Str) : leD (.str x) (.str y) S = .ok (!decide (cs y < cs x)) S := (rfl)
@[simp] theorem x_ltS (x y : Str) : ltD (.str x) (.str y) S = .ok (decide (cs x < cs y)) S := (rfl)
@[simp] theorem x_lenT (x : Str) : lenV [.str x] S = if x.length ≤ sizeLine then .ok (.int x.length) S else .bad := (rfl)
@[simp] theorem x_lenU (x : List D) : lenV [.tup x] S = .ok (.int x.length) S := (rfl)
@[simp] theorem x_lenW (x : List D) : lenV [.lis x] S = .ok (.int x.length) S := (rfl)
theorem x_lenR {n : Nat} {xs : List D} (h : lstAt S n = some xs) : lenV [.ref n] S = .ok (.int xs.length) S := by
  unfold lenV
  simp only [seqOf, h]
@[simp] theorem x_abs (i : Int) : absV [.int i] S = .ok (.int i.natAbs) S := by
  show R.ok (D.int (if i < 0 then -i else i)) S = _
  congr 2
  split <;> omega
@[simp] theorem x_max (i j : Int) : maxV [.int i, .int j] S = .ok (.int (max i j)) S := by
  show R.ok (D.int (if j > i then j else i)) S = _
  congr 2
  split <;> omega
@[simp] theorem x_min (i j : Int) : minV [.int i, .int j] S = .ok (.int (min i j)) S := by
  show R.ok (D.int (if j < i then j else i)) S = _
  congr 2
  split <;> omega
@[simp] theorem x_int (i : Int) : intV [.int i] S = .ok (.int i) S := (rfl)
@[simp] theorem x_intB (b : Bool) : intV [.bl b] S = .ok (.int (if b = true then 1 else 0)) S := (rfl)
@[simp] theorem x_strI (i : Int) : strV [.int i] S = if i.natAbs.log2 < 1920 then .ok (.str (toString i)) S else .bad := (rfl)
@[simp] theorem x_ixU (x : List D) (i : Int) : ixO S (.tup x) (.int i) = atI x i := (rfl)
@[simp] theorem x_ixW (x : List D) (i : Int) : ixO S (.lis x) (.int i) = atI x i := (rfl)
@[simp] theorem x_ixT (z : Str) (i : Int) : ixO S (.str z) (.int i) = if z.length ≤ sizeLine then (atI (cs z) i).map sgn else none := (rfl)
theorem x_ixR {n : Nat} {xs : List D} (h : lstAt S n = some xs) (i : Int) : ixO S (.ref n) (.int i) = atI xs i := by
  unfold ixO
  simp only [lstAt_some h]
theorem x_ixK {n : Nat} {kvs : List (Key × D)} (h : kvAt S n = some kvs) (x : Str) : ixO S (.ref n) (.str x) = dLook kvs (.inr x) := by
  unfold ixO
  simp only [h]
@[simp] theorem x_srcU (x : List D) : srcD (.tup x) S = .ok (x, still) S := (rfl)
@[simp] theorem x_srcW (x : List D) : srcD (.lis x) S = .ok (x, still) S := (rfl)
@[simp] theorem x_srcT (z : Str) : srcD (.str z) S = .ok ((cs z).map sgn, still) S := (rfl)
@[simp] theorem x_inT (c : Nat) (z : Str) : inD (sgn c) (.str z) S = .ok (decide (c ∈ cs z)) S := (rfl)
@[simp] theorem x_ninT (c : Nat) (z : Str) : notInD (sgn c) (.str z) S = .ok (!decide (c ∈ cs z)) S := (rfl)
@[simp] theorem x_eqT (x y : Str) : eqD (.str x) (.str y) S = .ok (decide (x = y)) S := (rfl)
@[simp] theorem x_neT (x y : Str) : neD (.str x) (.str y) S = .ok (!decide (x = y)) S := (rfl)
@[simp] theorem x_leG (x : Str) (c : Nat) : leD (.str x) (sgn c) S = .ok (!decide ([c] < cs x)) S := (rfl)
@[simp] theorem x_leG' (x : Str) (c : Nat) : leD (sgn c) (.str x) S = .ok (!decide (cs x < [c])) S := (rfl)
@[simp] theorem x_kNon : kindO S .non = some "NoneType" := (rfl)
@[simp] theorem x_kBl (b : Bool) : kindO S (.bl b) = some "bool" := (rfl)
@[simp] theorem x_kInt (i : Int) : kindO S (.int i) = some "int" := (rfl)
@[simp] theorem x_kStr (i : Str) : kindO S (.str i) = some "str" := (rfl)
@[simp] theorem x_kTup (i : List D) : kindO S (.tup i) = some "tuple" := (rfl)
@[simp] theorem x_kLis (i : List D) : kindO S (.lis i) = some "list" := (rfl)
theorem x_kLst {n : Nat} {xs : List D} (h : S[n]? = some (.lst xs)) : kindO S (.ref n) = some "list" := by unfold kindO; simp only [h]
end
theorem still_true (S : Store) : still S := trivial
@[simp] theorem if_still {α : Type} {S : Store} (a b : R α) [Decidable (still S)] : (if still S then a else b) = a := if_pos trivial

/-! ### loops that change nothing -/
theorem forL_nil {chk : Store → Prop} {t : MT} {b : MS} {l : Loc} {S : Store} (hk : chk S) : forL chk t b [] l S = .ok (.nx, l) S := by unfold forL; exact if_pos hk
theorem forL_cons {chk : Store → Prop} {t : MT} {b : MS} {d : D} {ds : List D} {l : Loc} {S : Store} (hk : chk S) : forL chk t b (d :: ds) l S = (t d l S).bind fun l1 S1 => (b l1 S1).bind (againS (forL chk t b ds)) := by
  conv => lhs; unfold forL
  exact if_pos hk
theorem compL_nil {chk : Store → Prop} {t : Tgt} {c : MB} {m : ME} {l : Loc} {acc : List D} {S : Store} (hk : chk S) : compL chk t c m l [] acc S = .ok acc S := by unfold compL; exact if_pos hk
theorem compL_cons {chk : Store → Prop} {t : Tgt} {c : MB} {m : ME} {l : Loc} {d : D} {ds acc : List D} {S : Store} (hk : chk S) : compL chk t c m l (d :: ds) acc S = (match t.put d l with
    | some l1 => (c l1 S).bind fun b S1 => if b = true then (m l1 S1).bind fun y S2 => if acc.length < sizeLine then compL chk t c m l ds (acc ++ [y]) S2 else .bad else compL chk t c m l ds acc S1
    | none => .bad) := by
  conv => lhs; unfold compL
  exact if_pos hk
/-- a comprehension of one name whose elements change nothing -/
theorem compL_pure {chk : Store → Prop} {i : Nat} {c : MB} {m : ME} {l : Loc} {S : Store} (hk : chk S) (p : D → Bool) (f : D → D) : ∀ (ds acc : List D), (∀ d ∈ ds, c (l.set i (some d)) S = .ok (p d) S) → (∀ d ∈ ds, p d = true → m (l.set i (some d)) S = .ok (f d) S) → acc.length + ds.length ≤ sizeLine →
    compL chk (.one i) c m l ds acc S = .ok (acc ++ (ds.filter p).map f) S
  | [], acc, _, _, _ => by rw [compL_nil hk]; simp
  | d :: ds, acc, hc, hm, hz => by
    have h1 := hc d List.mem_cons_self
    have h2 := hm d List.mem_cons_self
    rw [List.length_cons] at hz
    rw [compL_cons hk]
    simp only [Tgt.put, h1, R.bind_ok]
    cases e : p d with
    | true =>
      simp only [if_true, h2 e, R.bind_ok]
      rw [if_pos (by omega), compL_pure hk p f ds (acc ++ [f d]) (fun x hx => hc x (List.mem_cons_of_mem _ hx)) (fun x hx => hm x (List.mem_cons_of_mem _ hx)) (by rw [List.length_append, List.length_singleton]; omega)]
      simp [e]
    | false =>
      simp only [if_false, Bool.false_eq_true]
      rw [compL_pure hk p f ds acc (fun x hx => hc x (List.mem_cons_of_mem _ hx)) (fun x hx => hm x (List.mem_cons_of_mem _ hx)) (by omega)]
      simp [e]
theorem compL_map {chk : Store → Prop} {i : Nat} {m : ME} {l : Loc} {S : Store} (f : D → D) (ds : List D) (hm : ∀ d ∈ ds, m (l.set i (some d)) S = .ok (f d) S) (hz : ds.length ≤ sizeLine) (hk : chk S := by trivial) : compL chk (.one i) yesM m l ds [] S = .ok (ds.map f) S := by
  rw [compL_pure hk (fun _ => true) f ds [] (fun _ _ => rfl) (fun d hd _ => hm d hd) (by simpa using hz), List.filter_eq_self.mpr (fun _ _ => rfl)]
  rfl
theorem mapO_some {α β γ : Type} {f : α → Option β} {g : γ → α} {h : γ → β} (e : ∀ x, f (g x) = some (h x)) : ∀ xs : List γ, mapO f (xs.map g) = some (xs.map h)
  | [] => rfl
  | x :: xs => by rw [List.map_cons]; unfold mapO; rw [e, mapO_some e xs]; rfl
theorem mapO_of {α β : Type} {f : α → Option β} {h : α → β} : ∀ {xs : List α}, (∀ x ∈ xs, f x = some (h x)) → mapO f xs = some (xs.map h)
  | [], _ => rfl
  | x :: xs, e => by unfold mapO; rw [e x List.mem_cons_self, mapO_of fun y hy => e y (List.mem_cons_of_mem _ hy)]; rfl
/-- .. over items g b -/
theorem compL_pureG {β : Type} {chk : Store → Prop} {i : Nat} {c : MB} {m : ME} {l : Loc} {S : Store} (hk : chk S) (g : β → D) (p : β → Bool) (f : β → D) : ∀ (bs : List β) (acc : List D), (∀ b ∈ bs, c (l.set i (some (g b))) S = .ok (p b) S) → (∀ b ∈ bs, p b = true → m (l.set i (some (g b))) S = .ok (f b) S) → acc.length + bs.length ≤ sizeLine →
    compL chk (.one i) c m l (bs.map g) acc S = .ok (acc ++ (bs.filter p).map f) S
  | [], acc, _, _, _ => by rw [List.map_nil, compL_nil hk]; simp
  | d :: ds, acc, hc, hm, hz => by
    have h1 := hc d List.mem_cons_self
    have h2 := hm d List.mem_cons_self
    rw [List.length_cons] at hz
    rw [List.map_cons, compL_cons hk]
    simp only [Tgt.put, h1, R.bind_ok]
    cases e : p d with
    | true =>
      simp only [if_true, h2 e, R.bind_ok]
      rw [if_pos (by omega), compL_pureG hk g p f ds (acc ++ [f d]) (fun x hx => hc x (List.mem_cons_of_mem _ hx)) (fun x hx => hm x (List.mem_cons_of_mem _ hx)) (by rw [List.length_append, List.length_singleton]; omega)]
      simp [e]
    | false =>
      simp only [if_false, Bool.false_eq_true]
      rw [compL_pureG hk g p f ds acc (fun x hx => hc x (List.mem_cons_of_mem _ hx)) (fun x hx => hm x (List.mem_cons_of_mem _ hx)) (by omega)]
      simp [e]
theorem compL_mapG {β : Type} {chk : Store → Prop} {i : Nat} {m : ME} {l : Loc} {S : Store} (g : β → D) (f : β → D) (bs : List β) (hm : ∀ b ∈ bs, m (l.set i (some (g b))) S = .ok (f b) S) (hz : bs.length ≤ sizeLine) (hk : chk S := by trivial) : compL chk (.one i) yesM m l (bs.map g) [] S = .ok (bs.map f) S := by
  rw [compL_pureG hk g (fun _ => true) f bs [] (fun _ _ => rfl) (fun d hd _ => hm d hd) (by simpa using hz), List.filter_eq_self.mpr (fun _ _ => rfl)]
  rfl
theorem compL_filG {β : Type} {chk : Store → Prop} {i : Nat} {c : MB} {m : ME} {l : Loc} {S : Store} (g : β → D) (p : β → Bool) (f : β → D) (bs : List β) (hc : ∀ b ∈ bs, c (l.set i (some (g b))) S = .ok (p b) S) (hm : ∀ b ∈ bs, p b = true → m (l.set i (some (g b))) S = .ok (f b) S) (hz : bs.length ≤ sizeLine) (hk : chk S := by trivial) :
    compL chk (.one i) c m l (bs.map g) [] S = .ok ((bs.filter p).map f) S := by
  rw [compL_pureG hk g p f bs [] hc hm (by simpa using hz)]
  rfl
theorem allL_map {β : Type} (p : β → Bool) (bs : List β) (S : Store) : allL (bs.map fun b => .bl (p b)) S = .ok (.bl (bs.all p)) S := by
  unfold allL
  rw [mapO_some (f := isBl) (g := fun b => .bl (p b)) (h := p) (fun _ => rfl)]
  simp
theorem anyL_map {β : Type} (p : β → Bool) (bs : List β) (S : Store) : anyL (bs.map fun b => .bl (p b)) S = .ok (.bl (bs.any p)) S := by
  unfold anyL
  rw [mapO_some (f := isBl) (g := fun b => .bl (p b)) (h := p) (fun _ => rfl)]
  simp
theorem sz : sizeLine = 16777216 := rfl
theorem lt1 (a b : Nat) : ([a] : List Nat) < [b] ↔ a < b := by simp [List.cons_lt_cons_iff]
/-- a run that ends well -/
def Ret {α : Type} (r : R α) (Q : α → Store → Prop) : Prop := match r with
  | .ok a S => Q a S
  | _ => False
@[simp] theorem Ret_ok {α : Type} (a : α) (S : Store) (Q : α → Store → Prop) : Ret (.ok a S) Q ↔ Q a S := Iff.rfl
theorem Ret_bind {α β : Type} (r : R α) (f : α → Store → R β) (Q : β → Store → Prop) : Ret (r.bind f) Q ↔ Ret r fun a S => Ret (f a S) Q := by cases r <;> exact Iff.rfl
theorem Ret.imp {α : Type} {r : R α} {Q Q' : α → Store → Prop} (h : Ret r Q) (i : ∀ a S, Q a S → Q' a S) : Ret r Q' := by
  cases r with
  | ok a S => exact i a S h
  | ex x S => exact h
  | bad => exact h
theorem Ret.of {α : Type} {r : R α} {Q : α → Store → Prop} (h : Ret r Q) : ∃ a S, r = .ok a S ∧ Q a S := by
  cases r with
  | ok a S => exact ⟨a, S, rfl, h⟩
  | ex x S => exact h.elim
  | bad => exact h.elim
theorem Ret.bind {α β : Type} {r : R α} {f : α → Store → R β} {Q : β → Store → Prop} (h : Ret r fun a S => Ret (f a S) Q) : Ret (r.bind f) Q := (Ret_bind r f Q).mpr h
/-- a for loop with an invariant over the number of turns -/
theorem forL_inv {chk : Store → Prop} {t : MT} {b : MS} {Q : Fl × Loc → Store → Prop} (I : Nat → Loc → Store → Prop) {ds : List D} (hc : ∀ k l S, I k l S → chk S)
    (hs : ∀ k d l S, I k l S → ds[k]? = some d → Ret (t d l S) fun l1 S1 => Ret (b l1 S1) fun p S2 => match p.1 with
      | .nx => I (k + 1) p.2 S2
      | .ct => I (k + 1) p.2 S2
      | .bk => Q (.nx, p.2) S2
      | .rt _ => Q p S2) (he : ∀ l S, I ds.length l S → Q (.nx, l) S) :
    ∀ (j k : Nat) (l : Loc) (S : Store), j = ds.length - k → k ≤ ds.length → I k l S → Ret (forL chk t b (ds.drop k) l S) Q
  | 0, k, l, S, e, hk, h => by
    have : k = ds.length := by omega
    subst this
    rw [List.drop_length]
    unfold forL
    rw [if_pos (hc _ _ _ h)]
    exact he l S h
  | j + 1, k, l, S, e, hk, h => by
    have hk : k < ds.length := by omega
    rw [List.drop_eq_getElem_cons hk]
    unfold forL
    rw [if_pos (hc _ _ _ h)]
    have h1 := hs k ds[k] l S h (List.getElem?_eq_getElem hk)
    refine (h1.imp fun l1 S1 h => ?_).bind
    refine (h.imp fun p S2 h => ?_).bind
    obtain ⟨fl, l2⟩ := p
    cases fl with
    | nx => exact forL_inv I hc hs he j (k + 1) l2 S2 (by omega) (by omega) h
    | ct => exact forL_inv I hc hs he j (k + 1) l2 S2 (by omega) (by omega) h
    | bk => exact h
    | rt d => exact h
/-! ### equality is equality of data -/
mutual
theorem toPy_dep {S : Store} : ∀ (k : Nat) (d : D) (p : PyData), toPy S k d = some p → p.depth ≤ k
  | k, .non, p, h => by
    unfold toPy at h
    cases h
    exact by simp [PyData.depth]
  | k, .bl b, p, h => by
    unfold toPy at h
    cases h
    exact by simp [PyData.depth]
  | k, .int b, p, h => by
    unfold toPy at h
    cases h
    exact by simp [PyData.depth]
  | k, .str b, p, h => by
    unfold toPy at h
    cases h
    exact by simp [PyData.depth]
  | k, .exn b, p, h => by
    unfold toPy at h
    cases h
  | 0, .tup xs, p, h => by simp [toPy] at h
  | 0, .lis xs, p, h => by simp [toPy] at h
  | 0, .ref n, p, h => by simp [toPy] at h
  | k + 1, .tup xs, p, h => by
    have h : (mapO (toPy S k) xs).map PyData.tuple = some p := h
    cases e : mapO (toPy S k) xs with
    | none => rw [e] at h; simp at h
    | some q =>
      rw [e] at h
      cases h
      have := toPys_dep k xs q e
      exact by simp [PyData.depth]; omega
  | k + 1, .lis xs, p, h => by
    have h : (mapO (toPy S k) xs).map PyData.list = some p := h
    cases e : mapO (toPy S k) xs with
    | none => rw [e] at h; simp at h
    | some q =>
      rw [e] at h
      cases h
      have := toPys_dep k xs q e
      exact by simp [PyData.depth]; omega
  | k + 1, .ref n, p, h => by
    unfold toPy at h
    cases e1 : lstAt S n with
    | none => simp [e1] at h
    | some xs =>
      simp only [e1] at h
      cases e : mapO (toPy S k) xs with
      | none => simp [e] at h
      | some q =>
        rw [e] at h
        cases h
        have := toPys_dep k xs q e
        exact by simp [PyData.depth]; omega
theorem toPys_dep {S : Store} (k : Nat) : ∀ (xs : List D) (ps : List PyData), mapO (toPy S k) xs = some ps → PyData.depthAll ps ≤ k
  | [], ps, h => by
    unfold mapO at h
    cases h
    exact by simp [PyData.depthAll]
  | x :: xs, ps, h => by
    unfold mapO at h
    cases e1 : toPy S k x with
    | none => simp [e1] at h
    | some p =>
      cases e2 : mapO (toPy S k) xs with
      | none => simp [e1, e2] at h
      | some q =>
        simp [e1, e2] at h
        cases h
        have h1 := toPy_dep k x p e1
        have h2 := toPys_dep k xs q e2
        exact by simp [PyData.depthAll]; omega
end
theorem toPy_shaped {S : Store} {d : D} {p : PyData} (h : toPy S 64 d = some p) (c : p.canLay0 = true) : SeqAt.shaped p = true := by
  have := toPy_dep 64 d p h
  show (p.canLay0 && decide (p.depth ≤ 64)) = true
  rw [c, decide_eq_true this]
  rfl
theorem eqPy_of {S : Store} {d e : D} {p q : PyData} (h1 : toPy S 64 d = some p) (h2 : toPy S 64 e = some q) (c1 : p.canLay0 = true) (c2 : q.canLay0 = true) : eqPy S d e = some (PyData.eqv p q) := by
  unfold eqPy
  simp only [h1, h2]
  rw [if_pos ⟨toPy_shaped h1 c1, toPy_shaped h2 c2⟩]
theorem eqO_of {S : Store} {d e : D} {p q : PyData} (h1 : toPy S 64 d = some p) (h2 : toPy S 64 e = some q) (c1 : p.canLay0 = true) (c2 : q.canLay0 = true) : eqO S d e = some (PyData.eqv p q) := by
  unfold eqO
  split
  · simp only [toPy] at h1 h2
    cases h1
    cases h2
    simp [PyData.eqv]
    rfl
  · simp only [toPy] at h1 h2; cases h1; cases h2; rfl
  · simp only [toPy] at h1 h2; cases h1; cases h2; rfl
  · simp only [toPy] at h1 h2; cases h1; cases h2; rfl
  · simp only [toPy] at h1 h2; cases h1; cases h2; rfl
  · simp only [toPy] at h1 h2; cases h1; cases h2; rfl
  · simp only [toPy] at h1 h2; cases h1; cases h2; rfl
  · exact eqPy_of h1 h2 c1 c2
theorem eqD_of {S : Store} {d e : D} {p q : PyData} (h1 : toPy S 64 d = some p) (h2 : toPy S 64 e = some q) (c1 : p.canLay0 = true) (c2 : q.canLay0 = true) : eqD d e S = .ok (PyData.eqv p q) S := by
  unfold eqD
  simp only [eqO_of h1 h2 c1 c2]
theorem neD_of {S : Store} {d e : D} {p q : PyData} (h1 : toPy S 64 d = some p) (h2 : toPy S 64 e = some q) (c1 : p.canLay0 = true) (c2 : q.canLay0 = true) : neD d e S = .ok (!PyData.eqv p q) S := by
  unfold neD
  simp only [eqO_of h1 h2 c1 c2]
theorem eqLs_of {S : Store} {xs ys : List D} {ps qs : List PyData} (h1 : mapO (toPy S 63) xs = some ps) (h2 : mapO (toPy S 63) ys = some qs) (c1 : PyData.canLayAll0 ps = true) (c2 : PyData.canLayAll0 qs = true) : eqLs S xs ys = some (PyData.eqvAll ps qs) := by
  have a1 := toPys_dep 63 xs ps h1
  have a2 := toPys_dep 63 ys qs h2
  unfold eqLs
  simp only [h1, h2]
  rw [if_pos]
  · rw [PyData.eqv]
  · constructor
    · show (PyData.canLay0 (.list ps) && decide (PyData.depth (.list ps) ≤ 64)) = true
      simp [PyData.canLay0, PyData.depth, c1]
      omega
    · show (PyData.canLay0 (.list qs) && decide (PyData.depth (.list qs) ≤ 64)) = true
      simp [PyData.canLay0, PyData.depth, c2]
      omega
@[simp] theorem toPy_non (S : Store) (k : Nat) : toPy S k .non = some .none := by unfold toPy; cases k <;> rfl
@[simp] theorem toPy_bl (S : Store) (k : Nat) (b : Bool) : toPy S k (.bl b) = some (.bool b) := by unfold toPy; cases k <;> rfl
@[simp] theorem toPy_int (S : Store) (k : Nat) (i : Int) : toPy S k (.int i) = some (.int i) := by unfold toPy; cases k <;> rfl
@[simp] theorem toPy_str (S : Store) (k : Nat) (x : Str) : toPy S k (.str x) = some (.str x) := by unfold toPy; cases k <;> rfl
@[simp] theorem toPy_exn (S : Store) (k : Nat) (a : Addr) : toPy S k (.exn a) = none := by unfold toPy; cases k <;> rfl
@[simp] theorem toPy_sgn (S : Store) (k : Nat) (c : Nat) : toPy S k (sgn c) = some (.str ⟨#[c]⟩) := toPy_str S k _
@[simp] theorem toPy_tup (S : Store) (k : Nat) (xs : List D) : toPy S (k + 1) (.tup xs) = (mapO (toPy S k) xs).map .tuple := (rfl)
@[simp] theorem toPy_lis (S : Store) (k : Nat) (xs : List D) : toPy S (k + 1) (.lis xs) = (mapO (toPy S k) xs).map .list := (rfl)
theorem toPy_ref {S : Store} {n : Nat} {xs : List D} (h : S[n]? = some (.lst xs)) (k : Nat) : toPy S (k + 1) (.ref n) = (mapO (toPy S k) xs).map .list := by
  conv => lhs; unfold toPy
  simp only [lstAt_of h]
@[simp] theorem mapO_nil {α β : Type} (f : α → Option β) : mapO f [] = some [] := (rfl)
@[simp] theorem mapO_cons {α β : Type} (f : α → Option β) (x : α) (xs : List α) : mapO f (x :: xs) = match f x, mapO f xs with
  | some y, some ys => some (y :: ys)
  | _, _ => none := (rfl)
theorem eqvAll_nil (ps : List PyData) : PyData.eqvAll ps [] = ps.isEmpty := by cases ps <;> simp [PyData.eqvAll]
/-- loops -/
theorem forS_inv {chk : Store → Prop} {t : MT} {b : MS} {Q : Fl × Loc → Store → Prop} (I : Nat → Loc → Store → Prop) {ds : List D} {l : Loc} {S : Store} (h0 : I 0 l S) (hc : ∀ k l S, I k l S → chk S)
    (hs : ∀ k d l S, I k l S → ds[k]? = some d → Ret (t d l S) fun l1 S1 => Ret (b l1 S1) fun p S2 => match p.1 with
      | .nx => I (k + 1) p.2 S2
      | .ct => I (k + 1) p.2 S2
      | .bk => Q (.nx, p.2) S2
      | .rt _ => Q p S2) (he : ∀ l S, I ds.length l S → Q (.nx, l) S) : Ret (forL chk t b ds l S) Q := by
  have := forL_inv I hc hs he ds.length 0 l S (by omega) (by omega) h0
  rwa [List.drop_zero] at this
@[simp] theorem ofString_inj (a b : String) : Str.ofString a = Str.ofString b ↔ a = b := by
  refine ⟨fun h => ?_, fun h => by rw [h]⟩
  have := congrArg cs h
  rw [cs_of, cs_of] at this
  have inj : ∀ l m : List Char, l.map Char.toNat = m.map Char.toNat → l = m := by
    intro l
    induction l with
    | nil => intro m h; cases m with
      | nil => rfl
      | cons c m => simp at h
    | cons a l ih => intro m h; cases m with
      | nil => simp at h
      | cons c m =>
        simp at h
        rw [Char.toNat_inj.mp h.1, ih m h.2]
  exact String.toList_inj.mp (inj _ _ this)
theorem x_ix (d e : D) (S : Store) : ixD d e S = match ixO S d e with
  | some x => .ok x S
  | none => .bad := (rfl)
theorem x_ixD {d e x : D} {S : Store} (h : ixO S d e = some x) : ixD d e S = .ok x S := by unfold ixD; rw [h]
@[simp] theorem x_eqI (i j : Int) (S : Store) : eqD (.int i) (.int j) S = .ok (decide (i = j)) S := by
  rw [eqD_of (p := .int i) (q := .int j) rfl rfl rfl rfl]
  simp [PyData.eqv]
  rfl
@[simp] theorem x_neI (i j : Int) (S : Store) : neD (.int i) (.int j) S = .ok (!decide (i = j)) S := by
  rw [neD_of (p := .int i) (q := .int j) rfl rfl rfl rfl]
  simp [PyData.eqv]
  rfl
@[simp] theorem x_slT (z : Str) (lo hi : Option Int) (S : Store) : sliceD (.str z) lo hi S = if z.length ≤ sizeLine then .ok (.str (cutS z lo hi)) S else .bad := (rfl)
theorem cs_cut {z : Str} {lo hi : Option Int} {c : Nat} (h : c ∈ cs (cutS z lo hi)) : c ∈ cs z := by
  have h : c ∈ ((cs z).drop (HT.sIx z.length 0 lo)).take (HT.sIx z.length z.length hi - HT.sIx z.length 0 lo) := h
  exact List.mem_of_mem_drop (List.mem_of_mem_take h)
theorem joinL_one : ∀ l : List Nat, TL.joinL [] (l.map fun c => [c]) = l
  | [] => rfl
  | [c] => rfl
  | c :: d :: l => by
    have := joinL_one (d :: l)
    simp only [List.map_cons] at this ⊢
    unfold TL.joinL
    rw [this]
    rfl
theorem cs_join1 (l : List Nat) : cs (Str.join (Str.ofString "") (l.map fun c => (⟨#[c]⟩ : Str))) = l := by
  rw [cs_join, cs_of, List.map_map]
  exact joinL_one l
theorem strO_sgns (l : List Nat) : mapO strO (l.map sgn) = some (l.map fun c => (⟨#[c]⟩ : Str)) := mapO_some (f := strO) (g := sgn) (h := fun c => (⟨#[c]⟩ : Str)) (fun _ => rfl) l
theorem sum_ones (l : List Nat) : ((l.map fun c => (⟨#[c]⟩ : Str)).map (·.length)).sum = l.length := by
  induction l with
  | nil => rfl
  | cons c l ih =>
    simp only [List.map_cons, List.sum_cons, ih, List.length_cons]
    have : (⟨#[c]⟩ : Str).length = 1 := rfl
    omega
/-- ''.join of signs -/
theorem joinN_signs {m : MA} {l : Loc} {S S1 : Store} {ks : List Nat} (h : m l S = .ok (ks.map sgn) S1) (hz : ks.length ≤ 16777216) : ∃ x, joinN (conE (.str (Str.ofString ""))) m l S = .ok (.str x) S1 ∧ cs x = ks := by
  refine ⟨Str.join (Str.ofString "") (ks.map fun c => (⟨#[c]⟩ : Str)), ?_, cs_join1 ks⟩
  have e : (Str.ofString "").length = 0 := rfl
  simp only [x_joinN, x_con, R.bind_ok, h, x_strO, strO_sgns, sum_ones, e, Nat.mul_zero, Nat.add_zero]
  rw [if_pos hz]
@[simp] theorem len_app (x y : Str) : (x ++ y).length = x.length + y.length := by rw [← cs_len, cs_app, List.length_append, cs_len, cs_len]
theorem len_of (s : String) : (Str.ofString s).length = s.toList.length := by rw [← cs_len, cs_of, List.length_map]
theorem atI_mem {α : Type} {xs : List α} {i : Int} (h0 : 0 ≤ i) (h1 : i < xs.length) : ∃ u ∈ xs, atI xs i = some u := by
  obtain ⟨k, rfl⟩ : ∃ k : Nat, i = k := ⟨i.toNat, by omega⟩
  have hk : k < xs.length := by omega
  exact ⟨xs[k], List.getElem_mem hk, L2.atI_nat (List.getElem?_eq_getElem hk)⟩
@[simp] theorem x_rng1 {j : Int} {S : Store} (h1 : -4611686018427387904 ≤ j) (h2 : j < 4611686018427387904) : rng1 [.int j] S = .ok (intsFrom 0 j.toNat, still) S := if_pos ⟨by omega, by omega⟩
@[simp] theorem x_rng2 {i j : Int} {S : Store} (h3 : -4611686018427387904 ≤ i) (h4 : i < 4611686018427387904) (h1 : -4611686018427387904 ≤ j) (h2 : j < 4611686018427387904) : rng2 [.int i, .int j] S = .ok (intsFrom i (j - i).toNat, still) S := if_pos ⟨by omega, by omega, by omega, by omega⟩
theorem ints_at {lo : Int} {n k : Nat} {d : D} (h : (intsFrom lo n)[k]? = some d) : k < n ∧ d = .int (lo + (k : Nat)) := by
  unfold intsFrom at h
  have hk := (List.getElem?_eq_some_iff.mp h).1
  rw [List.length_map, List.length_range] at hk
  rw [List.getElem?_map, List.getElem?_range hk] at h
  cases h
  exact ⟨hk, rfl⟩
@[simp] theorem x_newC (c : Cell) (S : Store) : newC c S = .ok (.ref S.length) (S ++ [c]) := (rfl)
theorem x_addR {S : Store} {n m : Nat} {xs ys : List D} (h1 : S[n]? = some (.lst xs)) (h2 : S[m]? = some (.lst ys)) (h : xs.length + ys.length ≤ 16777216) : addD (.ref n) (.ref m) S = .ok (.ref S.length) (S ++ [.lst (xs ++ ys)]) := by
  unfold addD
  simp only [lstAt_of h1, lstAt_of h2]
  rw [if_pos (show _ ≤ sizeLine from h)]
  rfl
theorem x_srcR {S : Store} {n : Nat} {xs : List D} (h : S[n]? = some (.lst xs)) : srcD (.ref n) S = .ok (xs, fun S' => lstAt S' n = some xs) S := by
  unfold srcD
  simp only [lstAt_of h]
theorem at_app {S T : Store} {n : Nat} {c : Cell} (h : S[n]? = some c) : (S ++ T)[n]? = some c := by
  rw [List.getElem?_append_left (List.getElem?_eq_some_iff.mp h).1]
  exact h
theorem at_end {S : Store} {c : Cell} : (S ++ [c])[S.length]? = some c := by simp
/-- the text of a number -/
theorem num_text (n : Int) (h0 : 0 ≤ n) (k : Nat) (hk : 0 < k) (h1 : n < 10 ^ k) : ∃ x : Str, Str.ofString (toString n) = x ∧ x.length ≤ k ∧ ∀ c ∈ cs x, 48 ≤ c ∧ c ≤ 57 := by
  obtain ⟨m, rfl⟩ : ∃ m : Nat, n = m := ⟨n.toNat, by omega⟩
  have hm : m < 10 ^ k := by exact_mod_cast h1
  refine ⟨_, rfl, ?_, ?_⟩
  · rw [← cs_len, cs, TL.tl_num]
    exact TL.numL_len hk hm
  · rw [cs, TL.tl_num]
    exact TL.numL_digits m
end ML

set_option Elab.async false
set_option linter.all false
set_option maxRecDepth 100000
set_option autoImplicit false
/-! ML13: more reckoning. -/
namespace ML
open PySem PySem.Spec L2

/-- a text of signs -/
def mkS (w : List Nat) : Str := ⟨w.toArray⟩
@[simp] theorem cs_mkS (w : List Nat) : cs (mkS w) = w := by
  show w.toArray.toList = w
  simp
theorem mkS_cs (x : Str) : mkS (cs x) = x := cs_ext (cs_mkS _)
@[simp] theorem mkS_len (w : List Nat) : (mkS w).length = w.length := by rw [← cs_len, cs_mkS]
theorem mkS_of (s : String) : Str.ofString s = mkS (s.toList.map Char.toNat) := cs_ext (by rw [cs_of, cs_mkS])
theorem mkS_inj {a b : List Nat} : mkS a = mkS b ↔ a = b := ⟨fun h => by have := congrArg cs h; rwa [cs_mkS, cs_mkS] at this, fun h => by rw [h]⟩
theorem mkS_app (a b : List Nat) : mkS a ++ mkS b = mkS (a ++ b) := cs_ext (by rw [cs_app, cs_mkS, cs_mkS, cs_mkS])
theorem sgn_mk (c : Nat) : sgn c = .str (mkS [c]) := rfl
theorem x_neG (c : Nat) (y : Str) (S : Store) : neD (sgn c) (.str y) S = .ok (!decide ([c] = cs y)) S := by
  rw [sgn_mk, x_neT]
  congr 2
  refine decide_eq_decide.mpr ⟨fun h => ?_, fun h => cs_ext ?_⟩
  · rw [← h, cs_mkS]
  · rw [cs_mkS]; exact h
@[simp] theorem x_ordG (c : Nat) (S : Store) : ordV [sgn c] S = .ok (.int c) S := (rfl)
@[simp] theorem lstAt_end (T : Store) (xs : List D) : lstAt (T ++ [.lst xs]) T.length = some xs := lstAt_of (by simp)
@[simp] theorem set_end (T : Store) (c d : Cell) : (T ++ [c]).set T.length d = T ++ [d] := by
  rw [List.set_append_right _ _ (Nat.le_refl _)]
  simp
theorem x_append {S : Store} {n : Nat} {xs : List D} {d : D} (h : lstAt S n = some xs) (hz : xs.length < 16777216) : appendM (.ref n) [d] S = .ok .non (S.set n (.lst (xs ++ [d]))) := by
  unfold appendM
  simp only [h]
  exact if_pos hz
@[simp] theorem x_lstOfR (S : Store) (n : Nat) : lstOf S (.ref n) = lstAt S n := (rfl)
theorem sIx_of {n d : Nat} {k : Nat} : HT.sIx n d (some (k : Int)) = min k n := HT.sIx_nat n d k
theorem cs_take (z : Str) (k : Nat) : cs (cutS z none (some (k : Int))) = (cs z).take k := by
  have h : cs (cutS z none (some (k : Int))) = ((cs z).drop (HT.sIx z.length 0 none)).take (HT.sIx z.length z.length (some (k : Int)) - HT.sIx z.length 0 none) := rfl
  rw [h, sIx_of, HT.sIx_none, List.drop_zero, Nat.sub_zero, ← cs_len, ← List.take_take, List.take_length]
theorem cs_drop (z : Str) (k : Nat) : cs (cutS z (some (k : Int)) none) = (cs z).drop k := by
  have h : cs (cutS z (some (k : Int)) none) = ((cs z).drop (HT.sIx z.length 0 (some (k : Int)))).take (HT.sIx z.length z.length none - HT.sIx z.length 0 (some (k : Int))) := rfl
  rw [h, sIx_of, HT.sIx_none, ← cs_len, List.take_of_length_le (by rw [List.length_drop]; exact Nat.le_refl _)]
  by_cases q : k ≤ (cs z).length
  · rw [Nat.min_eq_left q]
  · rw [Nat.min_eq_right (by omega), List.drop_length, List.drop_of_length_le (by omega)]
theorem cutD_take (xs : List D) (k : Nat) : cutD xs none (some (k : Int)) = xs.take k := by
  unfold cutD
  rw [sIx_of, HT.sIx_none, List.drop_zero, Nat.sub_zero, ← List.take_take, List.take_length]
theorem cutD_drop (xs : List D) (k : Nat) : cutD xs (some (k : Int)) none = xs.drop k := by
  unfold cutD
  rw [sIx_of, HT.sIx_none, List.take_of_length_le (by rw [List.length_drop]; exact Nat.le_refl _)]
  by_cases q : k ≤ xs.length
  · rw [Nat.min_eq_left q]
  · rw [Nat.min_eq_right (by omega), List.drop_length, List.drop_of_length_le (by omega)]
/-- texts as things -/
def strD (w : List Nat) : D := .str (mkS w)
def okT (w : List Nat) : Prop := ∀ c ∈ w, c < 1114112
theorem lay_str {w : List Nat} (h : okT w) : (PyData.str (mkS w)).canLay0 = true := by
  simp only [PyData.canLay0, PyData.strOk, mkS]
  simpa [okT] using h
theorem lay_strs : ∀ {ws : List (List Nat)}, (∀ w ∈ ws, okT w) → PyData.canLayAll0 (ws.map fun w => PyData.str (mkS w)) = true
  | [], _ => rfl
  | w :: ws, h => by
    rw [List.map_cons, PyData.canLayAll0, lay_str (h w List.mem_cons_self), lay_strs fun v hv => h v (List.mem_cons_of_mem _ hv)]
    rfl
theorem eqv_strs : ∀ (ws vs : List (List Nat)), PyData.eqvAll (ws.map fun w => PyData.str (mkS w)) (vs.map fun w => PyData.str (mkS w)) = decide (ws = vs)
  | [], [] => by simp [PyData.eqvAll]
  | [], v :: vs => by simp [PyData.eqvAll]
  | w :: ws, [] => by simp [PyData.eqvAll]
  | w :: ws, v :: vs => by
    have e : (mkS w == mkS v) = decide (w = v) := by
      by_cases q : w = v
      · subst q; simp
      · rw [decide_eq_false q]
        exact beq_eq_false_iff_ne.mpr fun z => q (mkS_inj.mp z)
    simp [PyData.eqvAll, PyData.eqv, eqv_strs ws vs, e]
theorem toPy_strs {S : Store} {n : Nat} {ws : List (List Nat)} (h : S[n]? = some (.lst (ws.map strD))) (k : Nat) : toPy S (k + 1) (.ref n) = some (.list (ws.map fun w => PyData.str (mkS w))) := by
  rw [toPy_ref h, mapO_some (f := toPy S k) (g := strD) (h := fun w => PyData.str (mkS w)) (fun w => toPy_str S k _)]
  rfl
theorem x_eqStrs {S : Store} {n m : Nat} {ws vs : List (List Nat)} (h1 : S[n]? = some (.lst (ws.map strD))) (h2 : S[m]? = some (.lst (vs.map strD))) (k1 : ∀ w ∈ ws, okT w) (k2 : ∀ w ∈ vs, okT w) : eqD (.ref n) (.ref m) S = .ok (decide (ws = vs)) S := by
  rw [eqD_of (toPy_strs h1 63) (toPy_strs h2 63) (by rw [PyData.canLay0]; exact lay_strs k1) (by rw [PyData.canLay0]; exact lay_strs k2), PyData.eqv, eqv_strs]
theorem x_neStrs {S : Store} {n m : Nat} {ws vs : List (List Nat)} (h1 : S[n]? = some (.lst (ws.map strD))) (h2 : S[m]? = some (.lst (vs.map strD))) (k1 : ∀ w ∈ ws, okT w) (k2 : ∀ w ∈ vs, okT w) : neD (.ref n) (.ref m) S = .ok (!decide (ws = vs)) S := by
  rw [neD_of (toPy_strs h1 63) (toPy_strs h2 63) (by rw [PyData.canLay0]; exact lay_strs k1) (by rw [PyData.canLay0]; exact lay_strs k2), PyData.eqv, eqv_strs]
theorem strD_one (c : Nat) : strD [c] = sgn c := rfl
theorem strD_nil : D.str (Str.ofString "") = strD [] := congrArg D.str (mkS_of "")
theorem x_neD (w : List Nat) (y : Str) (S : Store) : neD (strD w) (.str y) S = .ok (!decide (w = cs y)) S := by
  show neD (.str (mkS w)) (.str y) S = _
  rw [x_neT]
  congr 2
  exact decide_eq_decide.mpr ⟨fun h => by rw [← h, cs_mkS], fun h => cs_ext (by rw [cs_mkS]; exact h)⟩
theorem x_neDD (w v : List Nat) (S : Store) : neD (strD w) (strD v) S = .ok (!decide (w = v)) S := by
  have := x_neD w (mkS v) S
  rwa [cs_mkS] at this
theorem x_addDG (w : List Nat) (c : Nat) (S : Store) : addD (strD w) (sgn c) S = if w.length + 1 ≤ sizeLine then .ok (strD (w ++ [c])) S else .bad := by
  show addD (.str (mkS w)) (.str (mkS [c])) S = _
  rw [x_addT, mkS_app, mkS_len, mkS_len]
  rfl
theorem x_addDD (w v : List Nat) (S : Store) : addD (strD w) (strD v) S = if w.length + v.length ≤ sizeLine then .ok (strD (w ++ v)) S else .bad := by
  show addD (.str (mkS w)) (.str (mkS v)) S = _
  rw [x_addT, mkS_app, mkS_len, mkS_len]
  rfl
theorem x_lenD {w : List Nat} {S : Store} (h : w.length ≤ 16777216) : lenV [strD w] S = .ok (.int w.length) S := by
  show lenV [.str (mkS w)] S = _
  rw [x_lenT, mkS_len, if_pos (show _ ≤ sizeLine from h)]
theorem x_slTake {w : List Nat} {k : Nat} {S : Store} (h : w.length ≤ 16777216) : sliceD (strD w) none (some (k : Int)) S = .ok (strD (w.take k)) S := by
  show sliceD (.str (mkS w)) none (some (k : Int)) S = _
  rw [x_slT, mkS_len, if_pos (show _ ≤ sizeLine from h)]
  have e : cutS (mkS w) none (some (k : Int)) = mkS (w.take k) := cs_ext (by rw [cs_take, cs_mkS, cs_mkS])
  rw [e]
  rfl
theorem x_slDrop {w : List Nat} {k : Nat} {S : Store} (h : w.length ≤ 16777216) : sliceD (strD w) (some (k : Int)) none S = .ok (strD (w.drop k)) S := by
  show sliceD (.str (mkS w)) (some (k : Int)) none S = _
  rw [x_slT, mkS_len, if_pos (show _ ≤ sizeLine from h)]
  have e : cutS (mkS w) (some (k : Int)) none = mkS (w.drop k) := cs_ext (by rw [cs_drop, cs_mkS, cs_mkS])
  rw [e]
  rfl
theorem x_slR {S : Store} {n k : Nat} {xs : List D} (h : lstAt S n = some xs) : sliceD (.ref n) none (some (k : Int)) S = .ok (.ref S.length) (S ++ [.lst (xs.take k)]) := by
  unfold sliceD
  simp only [x_lstOfR, h, cutD_take]
  rfl
theorem x_slRD {S : Store} {n k : Nat} {xs : List D} (h : lstAt S n = some xs) : sliceD (.ref n) (some (k : Int)) none S = .ok (.ref S.length) (S ++ [.lst (xs.drop k)]) := by
  unfold sliceD
  simp only [x_lstOfR, h, cutD_drop]
  rfl
/-- a try that catches -/
theorem catch_ok {hit : Nat → Option Bool} {i : Nat} {mb : MS} {mh : Addr → Exn → MS} {l : Loc} {S S1 : Store} {p : Fl × Loc} (h : mb l S = .ok p S1) : catchS hit i mb mh l S = .ok p S1 := by
  unfold catchS
  rw [h]
theorem catch_ex {hit : Nat → Option Bool} {i : Nat} {mb : MS} {mh : Addr → Exn → MS} {l : Loc} {S S1 : Store} {x : Exn} {r : R (Fl × Loc)} (h : mb l S = .ex x S1) (hh : hit x.c = some true) (hr : ∀ a, (goneS i (mh a x (l.set i (some (.exn a))) S1)).noex = r) : catchS hit i mb mh l S = r := by
  unfold catchS
  rw [h]
  simp only [hh]
  exact same_of hr
@[simp] theorem x_raiseS (k : Nat) (l : Loc) (S : Store) : raiseS k l S = .ex ⟨k, []⟩ S := (rfl)
@[simp] theorem x_goneOk (i : Nat) (p : Fl × Loc) (S : Store) : goneS i (.ok p S) = .ok (p.1, p.2.set i none) S := (rfl)
@[simp] theorem x_isX (t : Bool) (a : Addr) (m : ME) (l : Loc) (S : Store) : isX (some t) a m l S = (m l S).bind fun d S1 => match d with
    | .exn b => if b = a then .ok t S1 else .bad
    | _ => .bad := (rfl)
theorem x_rep {x : Str} {n : Int} {S : Store} (h : 2 ≤ n) (h1 : 0 < x.length) (h2 : n < 4294967296) (h3 : x.length * n.toNat ≤ 16777216) : mulD (.str x) (.int n) S = .ok (.str (repS x n.toNat)) S := by
  show (if n ≤ 0 ∧ -(2 ^ 63) ≤ n then R.ok (D.str Str.empty) S else if n = 1 then R.ok (D.str x) S else if 2 ≤ n ∧ 0 < x.length ∧ n < 2 ^ 32 ∧ x.length * n.toNat ≤ 16777216 then R.ok (D.str (repS x n.toNat)) S else .bad) = _
  rw [if_neg (by omega), if_neg (by omega), if_pos ⟨h, h1, by omega, h3⟩]
theorem cs_rep (x : Str) (n : Nat) : cs (repS x n) = (List.replicate n (cs x)).flatten := rep_cs x n
theorem repS_D (x : Str) (n : Nat) : D.str (repS x n) = strD (List.replicate n (cs x)).flatten := by
  show _ = D.str (mkS _)
  rw [← cs_rep, mkS_cs]
end ML

set_option Elab.async false
set_option linter.all false
set_option maxRecDepth 100000
set_option autoImplicit false
/-! ML14: instances: made, asked, told. -/
namespace ML
open PySem PySem.Spec L2

/-- the turns that a while has -/
def FU : Nat := 1000000
structure MkM (P : Program) (w : World) (K : PySem.W.Frag) (mg : Str → Option Value) (base : Heap) (cA : Nat → Addr) (k : Nat) (x : Str) (c n : Nat) (G : List D → Store → R D) : Prop where
  ex : ∃ f fd ps, mg x = some (.ref (cA c)) ∧ Mk K (cA c) f ∧ Binds K fd ps [] ∧ FnOk P w K mg base (L2.CX P w) k f fd ps (spM K cA G n)
structure MtM (P : Program) (w : World) (K : PySem.W.Frag) (mg : Str → Option Value) (base : Heap) (cA : Nat → Addr) (k : Nat) (m : Str) (c n : Nat) (G : List D → Store → R D) : Prop where
  ex : ∃ f fd ps, Cls K (cA c) ∧ Meth K (cA c) m f ∧ Binds K fd ps [] ∧ FnOk P w K mg base (L2.CX P w) k f fd ps (spM K cA G n)
abbrev Tbl := List (Nat × (List D → Store → R D))
/-- the classes that have the method -/
def MtL (P : Program) (w : World) (K : PySem.W.Frag) (mg : Str → Option Value) (base : Heap) (cA : Nat → Addr) (j : Nat) (m : Str) (n : Nat) : Tbl → Prop
  | [] => True
  | p :: r => (∃ k, k ≤ j ∧ MtM P w K mg base cA k m p.1 n p.2) ∧ MtL P w K mg base cA j m n r
def ClsL (K : PySem.W.Frag) (cA : Nat → Addr) (f : Str) : List Nat → Prop
  | [] => True
  | c :: r => (Cls K (cA c) ∧ NoAttr K (cA c) f) ∧ ClsL K cA f r
theorem ClsL.all {K : PySem.W.Frag} {cA : Nat → Addr} {f : Str} : ∀ {cs : List Nat}, ClsL K cA f cs → ∀ c ∈ cs, Cls K (cA c) ∧ NoAttr K (cA c) f
  | d :: r, h, c, hc => by
    rcases List.mem_cons.mp hc with e | e
    · subst e; exact h.1
    · exact ClsL.all h.2 c e
def makeE (c n : Nat) (G : List D → Store → R D) (m : MA) : ME := fun l S => (m l S).bind fun ds S1 => if ds.length + 1 = n then (G (.ref S1.length :: ds) (S1 ++ [.ins c []])).bind fun d S2 => match d with
  | .non => .ok (.ref S1.length) S2
  | _ => .bad else .bad
def tblAt : Tbl → Nat → Option (List D → Store → R D)
  | [], _ => none
  | p :: r, c => if p.1 = c then some p.2 else tblAt r c
def methE (m : Str) (n : Nat) (tbl : Tbl) (o : ME) (a : MA) : ME := fun l S => (o l S).noex.bind fun d S1 => match d with
  | .ref i => match insAt S1 i with
    | some (c, fs) => if fs.lookup m = none then (match tblAt tbl c with
      | some G => (a l S1).bind fun ds S2 => if ds.length + 1 = n then G (d :: ds) S2 else .bad
      | none => .bad) else .bad
    | none => .bad
  | _ => .bad
section
variable {X : Cx} {cA : Nat → Addr} {W : XK} {p pos apos : Pos} {x m : Str} {e o : Expr} {es : List Expr} {mo : ME} {ma : MA} {k j n c : Nat} {G : List D → Store → R D} {tbl : Tbl}
theorem make_of {σ : L2.St} {H : Hp} {Q : VK} (h : tE X.K cA W (makeE c n G ma) σ H Q) : tMake (cA c) (spM X.K cA G n) [] W (tAs X.K cA W ma) σ H Q :=
  (bind1 (rep1 := rVs X.K) st_V h).imp fun vs H1 h => by
    obtain ⟨ρ, S, ds, hS, hr, h⟩ := h
    split at h
    · rename_i hn
      intro y dx hy hdx ne
      have E1 : Ext ρ H1 ρ (upd H1 dx (.own y)) := Ext.new hdx
      have hy2 : (upd H1 dx (.own y)) y = none := by rw [upd_ne (Ne.symm ne)]; exact hy
      have hS1 := hS.new (o := .own y) hdx
      have E2 : Ext ρ (upd H1 dx (.own y)) (ρ ++ [y]) (upd (upd H1 dx (.own y)) y (.ins (cA c) dx [])) := Ext.alloc hy2
      have hS2 : Reps X.K cA (ρ ++ [y]) (upd (upd H1 dx (.own y)) y (.ins (cA c) dx [])) (S ++ [.ins c []]) := (hS1.new hy2).push (hS1.free hy2) ⟨dx, [], upd_same, by unfold RepP; rfl⟩
      have hrp : (ρ ++ [y])[S.length]? = some y := by rw [← hS.len, List.getElem?_append_right (Nat.le_refl _)]; simp
      refine ⟨by rw [List.append_nil, List.length_cons, RepVs.length hr]; exact hn, ρ ++ [y], S ++ [.ins c []], .ref S.length :: ds, hS2, .cons ?_ ?_, (After.step (rep := rV X.K) h (E1.trans E2)).imp fun v H2 hq => ?_⟩
      · unfold RepV
        exact ⟨y, hrp, rfl⟩
      · rw [List.append_nil]
        exact (hr.ext E1).ext E2
      · obtain ⟨ρ3, S3, d, e3, hS3, hd, h⟩ := hq
        split at h
        · unfold rV RepV at hd
          refine ⟨hd, h ρ3 H2 _ ((E1.trans E2).trans e3) hS3 ?_⟩
          show RepV X.K ρ3 H2 (.ref S.length) (.ref y)
          unfold RepV
          obtain ⟨r, er, _⟩ := e3.pre
          refine ⟨y, ?_, rfl⟩
          rw [er, List.getElem?_append_left (List.getElem?_eq_some_iff.mp hrp).1]
          exact hrp
        · exact h.elim
    · exact h.elim
/-- C(e, ..) -/
theorem mmake (M : MkM X.prog X.w X.K X.mg X.base cA k x c n G) (hk : k + 1 ≤ j) (hr : Room j X.A) (hx : Passes (L2.CX X.prog X.w) X W) (hg : Gl X x) (ha : PA X (e :: es) (tAs X.K cA W ma)) (hdb : (x == ("__debug__" : Str)) = false := by decide)
    (he : starEach (e :: es) X.env = (false, eval e X.env) :: starEach es X.env := by rfl) (hpl : (backTo pos (starEach es X.env)).any (·.1) = false := by rfl) : PE X (.Call (.Name x p) (e :: es) [] pos) (tE X.K cA W (makeE c n G ma)) := by
  obtain ⟨f, fd, ps, hm, hM, hb, F⟩ := M.ex
  exact (pe_make hM F (hr.mono hk) hg hm hb .nil hx ha hdb he hpl).imp fun σ H Q h => make_of h
theorem mmake0 (M : MkM X.prog X.w X.K X.mg X.base cA k x c n G) (hk : k + 1 ≤ j) (hr : Room j X.A) (hx : Passes (L2.CX X.prog X.w) X W) (hg : Gl X x) (hdb : (x == ("__debug__" : Str)) = false := by decide) : PE X (.Call (.Name x p) [] [] pos) (tE X.K cA W (makeE c n G nilA)) := by
  obtain ⟨f, fd, ps, hm, hM, hb, F⟩ := M.ex
  refine (pe_make0 hM F (hr.mono hk) hg hm hb .nil hx hdb).imp fun σ H Q h => ?_
  have h' := make_of h
  obtain ⟨ρ, S, l, hS, hl, h2⟩ := h'
  exact After.same (rep := rVs X.K) (a := []) (b := []) h2 hS .nil
theorem tbl_of {P : Program} {w : World} {K : PySem.W.Frag} {mg : Str → Option Value} {base : Heap} : ∀ {tbl : Tbl} {c : Nat} {G : List D → Store → R D}, MtL P w K mg base cA j m n tbl → tblAt tbl c = some G → ∃ k, k ≤ j ∧ MtM P w K mg base cA k m c n G
  | [], c, G, _, e => nomatch e
  | q :: r, c, G, h, e => by
    unfold tblAt at e
    split at e
    · rename_i hc
      cases e
      subst hc
      exact h.1
    · exact tbl_of h.2 e
/-- o.m(e, ..) -/
theorem mmeth {pl : Sem Bool} (T : MtL X.prog X.w X.K X.mg X.base cA j m n tbl) (hr : Room j X.A) (hx : Passes (L2.CX X.prog X.w) X W) (ho : PE X o (tE X.K cA W mo)) (ha : PA X (e :: es) (tAs X.K cA W ma))
    (hst : starEach (e :: es) X.env = (false, eval e X.env) :: starEach es X.env := by rfl) (hpl : (backTo pos (starEach es X.env)).any (·.1) = false := by rfl)
    (ht : eval (.Call (.Attribute o m apos) (e :: es) [] pos) X.env = (do
      let ov ← eval o X.env
      standAt apos.atName
      let (f, first) ← holding [ov] (getMethod ov m pl)
      callWith pos f first (backTo pos (starEach (e :: es) X.env)) (backToKw pos (keywordEach [] X.env))) := by rfl) : PE X (.Call (.Attribute o m apos) (e :: es) [] pos) (tE X.K cA W (methE m n tbl mo ma)) := by
  refine ⟨fun pins s σ H Q I h => ?_⟩
  obtain ⟨ρ, S, l, hS, hl, h⟩ := h
  cases eo : mo l S with
  | ok d S1 =>
    unfold methE at h
    rw [eo] at h
    simp only [R.noex, R.bind_ok] at h
    split at h
    · rename_i i
      split at h
      · rename_i c fs ei
        split at h
        · rename_i hf
          split at h
          · rename_i G eG
            obtain ⟨k, hk, M⟩ := tbl_of T eG
            obtain ⟨f, fd, ps, hC, hM, hb, F⟩ := M.ex
            refine (pe_meth (pl := pl) ho hC hM F (hr.mono hk) hb .nil hx ha hst hpl ht).run pins s σ H Q I ⟨ρ, S, l, hS, hl, ?_⟩
            rw [eo]
            intro ρ1 H1 v e1 hS1 hv
            obtain ⟨a, dx, vs, rfl, _, h1, h2⟩ := rins_rep hS1 hv ei
            refine ⟨a, dx, vs, rfl, h1, fld_none h2 hf, ρ1, S1, l, hS1, hl.ext e1, (After.step (rep := rVs X.K) h e1).imp fun us H2 hq => ?_⟩
            obtain ⟨ρ2, S2, ds, e2, hS2, hr2, h⟩ := hq
            split at h
            · rename_i hn
              refine ⟨by rw [List.append_nil, List.length_cons, RepVs.length hr2]; exact hn, ρ2, S2, .ref i :: ds, hS2, .cons (hv.ext e2) (by rw [List.append_nil]; exact hr2), After.back st_V (e1.trans e2) h⟩
            · exact h.elim
          · exact h.elim
        · exact h.elim
      · exact h.elim
    · exact h.elim
  | ex z S1 =>
    unfold methE at h
    rw [eo] at h
    exact h.elim
  | bad =>
    unfold methE at h
    rw [eo] at h
    exact h.elim
/-- o.m() -/
theorem mmeth0 {pl : Sem Bool} (T : MtL X.prog X.w X.K X.mg X.base cA j m n tbl) (hr : Room j X.A) (hx : Passes (L2.CX X.prog X.w) X W) (ho : PE X o (tE X.K cA W mo))
    (ht : eval (.Call (.Attribute o m apos) [] [] pos) X.env = (do
      let ov ← eval o X.env
      standAt apos.atName
      let (f, first) ← holding [ov] (getMethod ov m pl)
      callWith pos f first (backTo pos (starEach [] X.env)) (backToKw pos (keywordEach [] X.env))) := by rfl) : PE X (.Call (.Attribute o m apos) [] [] pos) (tE X.K cA W (methE m n tbl mo nilA)) := by
  refine ⟨fun pins s σ H Q I h => ?_⟩
  obtain ⟨ρ, S, l, hS, hl, h⟩ := h
  cases eo : mo l S with
  | ok d S1 =>
    unfold methE at h
    rw [eo] at h
    simp only [R.noex, R.bind_ok] at h
    split at h
    · rename_i i
      split at h
      · rename_i c fs ei
        split at h
        · rename_i hf
          split at h
          · rename_i G eG
            obtain ⟨k, hk, M⟩ := tbl_of T eG
            obtain ⟨f, fd, ps, hC, hM, hb, F⟩ := M.ex
            refine (pe_meth0 (pl := pl) ho hC hM F (hr.mono hk) hb .nil hx ht).run pins s σ H Q I ⟨ρ, S, l, hS, hl, ?_⟩
            rw [eo]
            intro ρ1 H1 v e1 hS1 hv
            obtain ⟨a, dx, vs, rfl, _, h1, h2⟩ := rins_rep hS1 hv ei
            refine ⟨a, dx, vs, rfl, h1, fld_none h2 hf, ?_⟩
            have h : After X.K cA W ρ H (rV X.K) (if ([] : List D).length + 1 = n then G [.ref i] S1 else .bad) Q := h
            split at h
            · rename_i hn
              exact ⟨hn, ρ1, S1, [.ref i], hS1, .cons hv .nil, After.back st_V e1 h⟩
            · exact h.elim
          · exact h.elim
        · exact h.elim
      · exact h.elim
    · exact h.elim
  | ex z S1 =>
    unfold methE at h
    rw [eo] at h
    exact h.elim
  | bad =>
    unfold methE at h
    rw [eo] at h
    exact h.elim
end
end ML

set_option Elab.async false
set_option linter.all false
set_option maxRecDepth 100000
set_option autoImplicit false
/-! ML15: what is reached from numbers, by any order of walking; loops. -/
namespace ML
open PySem PySem.Spec L2

inductive Reach (succ : Nat → List Nat) (vs : List Nat) : Nat → Prop where
  | base {k : Nat} (h : k ∈ vs) : Reach succ vs k
  | step {j k : Nat} (h : Reach succ vs j) (e : k ∈ succ j) : Reach succ vs k
/-- the rising list of what is reached -/
def IsCl (succ : Nat → List Nat) (vs L : List Nat) : Prop := L.Pairwise (· < ·) ∧ ∀ k, k ∈ L ↔ Reach succ vs k
theorem rising_eq : ∀ {L M : List Nat}, L.Pairwise (· < ·) → M.Pairwise (· < ·) → (∀ k, k ∈ L ↔ k ∈ M) → L = M := by
  intro L M h1 h2 h
  have n1 : L.Nodup := h1.imp fun h => Nat.ne_of_lt h
  have n2 : M.Nodup := h2.imp fun h => Nat.ne_of_lt h
  have hp : L.Perm M := (List.perm_ext_iff_of_nodup n1 n2).mpr h
  exact hp.eq_of_pairwise (fun a b _ _ h1 h2 => absurd h1 (by omega)) h1 h2
theorem IsCl.uniq {succ : Nat → List Nat} {vs L M : List Nat} (h1 : IsCl succ vs L) (h2 : IsCl succ vs M) : L = M := rising_eq h1.1 h2.1 fun k => (h1.2 k).trans (h2.2 k).symm
/-- numbers as things -/
def intsD (l : List Nat) : List D := l.map fun k : Nat => .int (k : Int)
theorem sort_nat (l : List Nat) : sortI (l.map fun k : Nat => (k : Int)) = (l.mergeSort fun a b => decide (a ≤ b)).map fun k : Nat => (k : Int) := by
  have hp : (l.mergeSort fun a b => decide (a ≤ b)).Perm l := List.mergeSort_perm l _
  have hs : (l.mergeSort fun a b => decide (a ≤ b)).Pairwise (· ≤ ·) := by
    have := List.pairwise_mergeSort (le := fun (a b : Nat) => decide (a ≤ b)) (fun a b c h1 h2 => by simp only [decide_eq_true_eq] at *; omega) (fun a b => by simp only [Bool.or_eq_true, decide_eq_true_eq]; omega) l
    exact this.imp fun h => by simpa using h
  refine (sortI_eq (hp.map _) ?_).symm
  rw [List.pairwise_map]
  exact hs.imp fun h => by omega
theorem sort_nodup {l : List Nat} (h : l.Nodup) : (l.mergeSort fun a b => decide (a ≤ b)).Pairwise (· < ·) := by
  have hp : (l.mergeSort fun a b => decide (a ≤ b)).Perm l := List.mergeSort_perm l _
  have hs : (l.mergeSort fun a b => decide (a ≤ b)).Pairwise (· ≤ ·) := by
    have := List.pairwise_mergeSort (le := fun (a b : Nat) => decide (a ≤ b)) (fun a b c h1 h2 => by simp only [decide_eq_true_eq] at *; omega) (fun a b => by simp only [Bool.or_eq_true, decide_eq_true_eq]; omega) l
    exact this.imp fun h => by simpa using h
  have hn : (l.mergeSort fun a b => decide (a ≤ b)).Nodup := hp.symm.nodup h
  exact (hs.and hn).imp fun ⟨a, b⟩ => by omega
theorem mapO_ints (l : List Nat) : mapO intO (intsD l) = some (l.map fun k : Nat => (k : Int)) := mapO_some (f := intO) (g := fun k : Nat => D.int (k : Int)) (h := fun k : Nat => (k : Int)) (fun _ => rfl) l
theorem sortL_ints (l : List Nat) (S : Store) : sortL (intsD l) S = .ok (intsD (l.mergeSort fun a b => decide (a ≤ b))) S := by
  unfold sortL
  rw [mapO_ints]
  simp only [sort_nat, List.map_map]
  rfl
structure CI (succ : Nat → List Nat) (vs seen td : List Nat) : Prop where
  nd : seen.Nodup
  s1 : ∀ k ∈ seen, Reach succ vs k
  s2 : ∀ k ∈ td, Reach succ vs k
  c0 : ∀ k ∈ vs, k ∈ seen ∨ k ∈ td
  c1 : ∀ j ∈ seen, ∀ k ∈ succ j, k ∈ seen ∨ k ∈ td
section
variable {succ : Nat → List Nat} {vs seen td td' : List Nat} {k : Nat}
theorem CI.start : CI succ vs [] vs := ⟨List.nodup_nil, fun k h => by simp at h, fun k h => .base h, fun k h => .inr h, fun j h => by simp at h⟩
theorem CI.skip (h : CI succ vs seen td) (h1 : ∀ x ∈ td, x ∈ td' ∨ x ∈ seen) (h2 : ∀ x ∈ td', x ∈ td) : CI succ vs seen td' :=
  ⟨h.nd, h.s1, fun x hx => h.s2 x (h2 x hx), fun x hx => (h.c0 x hx).elim .inl fun q => (h1 x q).symm, fun j hj x hx => (h.c1 j hj x hx).elim .inl fun q => (h1 x q).symm⟩
theorem CI.take (h : CI succ vs seen td) (hk : k ∈ td) (hn : k ∉ seen) (h1 : ∀ x ∈ td, x = k ∨ x ∈ td') (h2 : ∀ x ∈ td', x ∈ td ∨ x ∈ succ k) (h3 : ∀ x ∈ succ k, x ∈ td') : CI succ vs (seen ++ [k]) td' := by
  have q : ∀ x, x ∈ td → x ∈ seen ++ [k] ∨ x ∈ td' := fun x hx => (h1 x hx).elim (fun e => .inl (by simp [e])) .inr
  refine ⟨?_, fun x hx => ?_, fun x hx => ?_, fun x hx => ?_, fun j hj x hx => ?_⟩
  · rw [List.nodup_append]
    exact ⟨h.nd, by simp, fun a ha b hb => by simp at hb; subst hb; rintro rfl; exact hn ha⟩
  · rcases List.mem_append.mp hx with hx | hx
    · exact h.s1 x hx
    · simp at hx; subst hx; exact h.s2 _ hk
  · rcases h2 x hx with e | e
    · exact h.s2 x e
    · exact .step (h.s2 k hk) e
  · rcases h.c0 x hx with e | e
    · exact .inl (by simp [e])
    · exact q x e
  · rcases List.mem_append.mp hj with hj | hj
    · rcases h.c1 j hj x hx with e | e
      · exact .inl (by simp [e])
      · exact q x e
    · simp at hj; subst hj
      exact .inr (h3 x hx)
theorem CI.done (h : CI succ vs seen []) : ∀ k, k ∈ seen ↔ Reach succ vs k := fun k => by
  refine ⟨h.s1 k, fun r => ?_⟩
  induction r with
  | base hk => rcases h.c0 _ hk with e | e
               · exact e
               · simp at e
  | step _ e ih => rcases h.c1 _ ih _ e with e | e
                   · exact e
                   · simp at e
theorem CI.cl (h : CI succ vs seen []) : IsCl succ vs (seen.mergeSort fun a b => decide (a ≤ b)) := by
  refine ⟨sort_nodup h.nd, fun k => ?_⟩
  rw [← h.done k]
  exact (List.mergeSort_perm seen _).mem_iff
end
/-- what is not yet seen -/
def un (dom seen : List Nat) : Nat := (dom.filter fun k => decide (k ∉ seen)).length
theorem un_le (dom seen : List Nat) : un dom seen ≤ dom.length := List.length_filter_le _ _
theorem un_mono (dom seen : List Nat) (k : Nat) : un dom (seen ++ [k]) ≤ un dom seen := by
  induction dom with
  | nil => exact Nat.le_refl _
  | cons x dom ih =>
    unfold un at ih ⊢
    simp only [List.filter_cons]
    by_cases h : x ∈ seen
    · simp [h] at ih ⊢
      exact ih
    · by_cases e : x = k
      · simp [h, e] at ih ⊢
        have : ¬ k ∈ seen := by rw [← e]; exact h
        simp [this]
        omega
      · simp [h, e] at ih ⊢
        exact ih
theorem un_take {dom seen : List Nat} {k : Nat} (h : k ∈ dom) (hn : k ∉ seen) : un dom (seen ++ [k]) + 1 ≤ un dom seen := by
  induction dom with
  | nil => simp at h
  | cons x dom ih =>
    have m := un_mono dom seen k
    unfold un at ih m ⊢
    simp only [List.filter_cons]
    by_cases e : x = k
    · subst e
      simp [hn] at m ⊢
      exact m
    · have hm : k ∈ dom := by
        rcases List.mem_cons.mp h with q | q
        · exact absurd q.symm e
        · exact q
      have ih := ih hm
      by_cases hx : x ∈ seen
      · simp [hx] at ih ⊢
        exact ih
      · simp [hx, e] at ih ⊢
        exact ih
/-! stores -/
@[simp] theorem get_mid (S : Store) (c : Cell) (Z : Store) : (S ++ c :: Z)[S.length]? = some c := by simp
theorem get_mid1 (S : Store) (c e : Cell) (Z : Store) : (S ++ c :: e :: Z)[S.length + 1]? = some e := by
  rw [List.getElem?_append_right (by omega)]
  simp
theorem set_mid (S : Store) (c d : Cell) (Z : Store) : (S ++ c :: Z).set S.length d = S ++ d :: Z := by
  rw [List.set_append_right _ _ (Nat.le_refl _)]
  simp
theorem set_mid1 (S : Store) (c e d : Cell) (Z : Store) : (S ++ c :: e :: Z).set (S.length + 1) d = S ++ c :: d :: Z := by
  rw [List.set_append_right _ _ (by omega)]
  simp
theorem x_while {c : MB} {b : MS} {k : Nat} {l : Loc} {S : Store} : whileS c b (k + 1) l S = (c l S).bind fun t S1 => if t = true then (b l S1).bind (againS (whileS c b k)) else .ok (.nx, l) S1 := (rfl)
theorem lookup_eq (f : String) (x : D) (r : List (Str × D)) : List.lookup (Str.ofString f) ((Str.ofString f, x) :: r) = some x := by simp [List.lookup]
theorem beq_of (a b : String) : (Str.ofString a == Str.ofString b) = (a == b) := by
  by_cases h : a = b
  · subst h; simp
  · have h2 : ¬ Str.ofString a = Str.ofString b := fun e => h ((ofString_inj a b).mp e)
    rw [beq_eq_false_iff_ne.mpr h2, beq_eq_false_iff_ne.mpr h]
/-! instances -/
@[simp] theorem x_makeE (c n : Nat) (G : List D → Store → R D) (m : MA) (l : Loc) (S : Store) : makeE c n G m l S = (m l S).bind fun ds S1 => if ds.length + 1 = n then (G (.ref S1.length :: ds) (S1 ++ [.ins c []])).bind fun d S2 => match d with
  | .non => .ok (.ref S1.length) S2
  | _ => .bad else .bad := (rfl)
@[simp] theorem x_methE (m : Str) (n : Nat) (tbl : Tbl) (o : ME) (a : MA) (l : Loc) (S : Store) : methE m n tbl o a l S = (o l S).noex.bind fun d S1 => match d with
  | .ref i => match insAt S1 i with
    | some (c, fs) => if fs.lookup m = none then (match tblAt tbl c with
      | some G => (a l S1).bind fun ds S2 => if ds.length + 1 = n then G (d :: ds) S2 else .bad
      | none => .bad) else .bad
    | none => .bad
  | _ => .bad := (rfl)
@[simp] theorem x_fldS (cs : List Nat) (f : Str) (m v : ME) (l : Loc) (S : Store) : fldS cs f m v l S = (v l S).bind fun y S1 => (m l S1).bind fun d S2 => match d with
  | .ref n => match insAt S2 n with
    | some (c, fs) => if c ∈ cs ∧ fs.length < 1000 then .ok (.nx, l) (S2.set n (.ins c (putD f y fs))) else .bad
    | none => .bad
  | _ => .bad := (rfl)
@[simp] theorem x_tblAt0 (c : Nat) : tblAt [] c = none := (rfl)
@[simp] theorem x_tblAtS (p : Nat × (List D → Store → R D)) (r : Tbl) (c : Nat) : tblAt (p :: r) c = if p.1 = c then some p.2 else tblAt r c := (rfl)
@[simp] theorem insAt_end (S : Store) (c : Nat) (fs : List (Str × D)) : insAt (S ++ [.ins c fs]) S.length = some (c, fs) := insAt_of (by simp)
theorem insAt_app {S T : Store} {n c : Nat} {fs : List (Str × D)} (h : S[n]? = some (.ins c fs)) : insAt (S ++ T) n = some (c, fs) := insAt_of (at_app h)
@[simp] theorem x_dict0 (l : Loc) (S : Store) : dict0 l S = .ok (.ref S.length) (S ++ [.dct []]) := (rfl)
@[simp] theorem x_isN0 (S : Store) : isD .non .non S = .ok true S := (rfl)
theorem x_isN {d : D} (h : d ≠ .non) (S : Store) : isD d .non S = .ok false S := by
  cases d with
  | non => exact absurd rfl h
  | _ => rfl
@[simp] theorem x_inN0 (S : Store) : isNotD .non .non S = .ok false S := (rfl)
theorem x_inN {d : D} (h : d ≠ .non) (S : Store) : isNotD d .non S = .ok true S := by
  cases d with
  | non => exact absurd rfl h
  | _ => rfl
@[simp] theorem x_slU (xs : List D) (lo hi : Option Int) (S : Store) : sliceD (.tup xs) lo hi S = .ok (.tup (cutD xs lo hi)) S := (rfl)
theorem x_pop {S : Store} {n : Nat} {xs : List D} {x : D} (h : lstAt S n = some (xs ++ [x])) : popM (.ref n) [] S = .ok x (S.set n (.lst xs)) := by
  unfold popM
  simp only [h]
  simp
theorem x_popAt0 {S : Store} {n : Nat} {xs : List D} {x : D} (h : lstAt S n = some (x :: xs)) : popAtM (.ref n) [.int 0] S = .ok x (S.set n (.lst xs)) := by
  unfold popAtM
  simp only [h]
  simp
theorem x_extend {S : Store} {n k : Nat} {xs ys : List D} (h : lstAt S n = some xs) (h2 : lstAt S k = some ys) (hz : xs.length + ys.length ≤ 16777216) : extendM (.ref n) [.ref k] S = .ok .non (S.set n (.lst (xs ++ ys))) := by
  unfold extendM
  simp only [h, h2]
  exact if_pos hz
/-- a dict of numbers that are seen -/
def seenD (l : List Nat) : List (Key × D) := l.map fun k : Nat => (.inl (k : Int), .bl true)
theorem seen_look (l : List Nat) (k : Nat) : (dLook (seenD l) (.inl (k : Int))).isSome = decide (k ∈ l) := by
  induction l with
  | nil => rfl
  | cons x l ih =>
    unfold seenD dLook at ih ⊢
    rw [List.map_cons, List.find?_cons]
    by_cases h : x = k
    · subst h; simp
    · have h2 : ¬ ((x : Int) = (k : Int)) := by omega
      have h3 : ¬ ((Sum.inl (x : Int) : Key) = Sum.inl (k : Int)) := fun z => h2 (Sum.inl.inj z)
      simp only [h3, decide_false]
      rw [ih]
      simp [Ne.symm h]
theorem seen_put {l : List Nat} {k : Nat} (h : k ∉ l) : dPut (seenD l) (.inl (k : Int)) (.bl true) = seenD (l ++ [k]) := by
  unfold dPut
  rw [if_neg]
  · simp [seenD]
  · intro q
    rw [List.any_eq_true] at q
    obtain ⟨p, hp, e⟩ := q
    unfold seenD at hp
    obtain ⟨x, hx, rfl⟩ := List.mem_map.mp hp
    have : (Sum.inl (x : Int) : Key) = Sum.inl (k : Int) := of_decide_eq_true e
    have := Sum.inl.inj this
    have : x = k := by omega
    subst this
    exact h hx
def keyD : Key → D
  | .inl i => .int i
  | .inr x => .str x
theorem seen_keys (l : List Nat) : ((seenD l).map fun kv => keyD kv.1) = intsD l := by
  unfold seenD intsD
  rw [List.map_map]
  rfl
theorem x_listDict {S : Store} {n : Nat} {kvs : List (Key × D)} (h : S[n]? = some (.dct kvs)) : listV [.ref n] S = .ok (kvs.map fun kv => keyD kv.1) S := by
  unfold listV
  have h1 : seqOf S (.ref n) = none := by
    show lstAt S n = none
    unfold lstAt
    rw [h]
  simp only [h1, dctAt_of h]
  congr 1
theorem x_listLst {S : Store} {n : Nat} {xs : List D} (h : lstAt S n = some xs) : listV [.ref n] S = .ok xs S := by
  unfold listV
  have h1 : seqOf S (.ref n) = some xs := h
  simp only [h1]
theorem x_ninDict {S : Store} {n k : Nat} {kvs : List (Key × D)} (h : S[n]? = some (.dct kvs)) : notInD (.int (k : Int)) (.ref n) S = .ok (!(dLook kvs (.inl (k : Int))).isSome) S := by
  unfold notInD inO
  have h1 : seqOf S (.ref n) = none := by
    show lstAt S n = none
    unfold lstAt
    rw [h]
  simp only [h1, kvAt_of h, keyO]
theorem x_setDict {S : Store} {n k : Nat} {kvs : List (Key × D)} {v : D} (h : S[n]? = some (.dct kvs)) (hz : kvs.length < 16777216) : setO S (.ref n) (.int (k : Int)) v = some (S.set n (.dct (dPut kvs (.inl (k : Int)) v))) := by
  unfold setO
  simp only [h, keyO]
  exact if_pos hz
theorem mapO_flat (l : List Nat) : mapO flatO (intsD l) = some (l.map fun k : Nat => V.int (k : Int)) := mapO_some (f := flatO) (g := fun k : Nat => D.int (k : Int)) (h := fun k : Nat => V.int (k : Int)) (fun _ => rfl) l
theorem x_ninInts {S : Store} {n k : Nat} {l : List Nat} (h : lstAt S n = some (intsD l)) : notInD (.int (k : Int)) (.ref n) S = .ok (!decide (k ∈ l)) S := by
  unfold notInD inO
  have h1 : seqOf S (.ref n) = some (intsD l) := h
  simp only [h1, mapO_flat, flatO]
  congr 2
  rw [Bool.eq_iff_iff]
  simp [inV, eqV]
  constructor
  · rintro ⟨a, h1, h2⟩
    have : a = k := by omega
    subst this; exact h1
  · intro h; exact ⟨k, h, rfl⟩
theorem x_ixDict {S : Store} {n : Nat} {k : Int} {kvs : List (Key × D)} (h : S[n]? = some (.dct kvs)) : ixO S (.ref n) (.int k) = dLook kvs (.inl k) := by
  unfold ixO
  simp only [h]
theorem toPy_ints {S : Store} {n : Nat} {l : List Nat} (h : S[n]? = some (.lst (intsD l))) (k : Nat) : toPy S (k + 1) (.ref n) = some (.list (l.map fun i : Nat => PyData.int (i : Int))) := by
  rw [toPy_ref h]
  unfold intsD
  rw [mapO_some (f := toPy S k) (g := fun i : Nat => D.int (i : Int)) (h := fun i : Nat => PyData.int (i : Int)) (fun i => toPy_int S k i)]
  rfl
theorem lay_ints : ∀ l : List Nat, PyData.canLayAll0 (l.map fun i : Nat => PyData.int (i : Int)) = true
  | [] => rfl
  | i :: l => by rw [List.map_cons, PyData.canLayAll0, PyData.canLay0, lay_ints l]; rfl
theorem eqv_ints : ∀ l m : List Nat, PyData.eqvAll (l.map fun i : Nat => PyData.int (i : Int)) (m.map fun i : Nat => PyData.int (i : Int)) = decide (l = m)
  | [], [] => by simp [PyData.eqvAll]
  | [], _ :: _ => by simp [PyData.eqvAll]
  | _ :: _, [] => by simp [PyData.eqvAll]
  | i :: l, j :: m => by
    have e : ((i : Int) == (j : Int)) = decide (i = j) := by
      by_cases q : i = j
      · subst q; simp
      · rw [decide_eq_false q]
        exact beq_eq_false_iff_ne.mpr (by omega)
    simp [PyData.eqvAll, PyData.eqv, eqv_ints l m, e]
theorem x_eqInts {S : Store} {n m : Nat} {l k : List Nat} (h1 : S[n]? = some (.lst (intsD l))) (h2 : S[m]? = some (.lst (intsD k))) : eqD (.ref n) (.ref m) S = .ok (decide (l = k)) S := by
  rw [eqD_of (toPy_ints h1 63) (toPy_ints h2 63) (by rw [PyData.canLay0]; exact lay_ints l) (by rw [PyData.canLay0]; exact lay_ints k), PyData.eqv, eqv_ints]
theorem x_neInts {S : Store} {n m : Nat} {l k : List Nat} (h1 : S[n]? = some (.lst (intsD l))) (h2 : S[m]? = some (.lst (intsD k))) : neD (.ref n) (.ref m) S = .ok (!decide (l = k)) S := by
  rw [neD_of (toPy_ints h1 63) (toPy_ints h2 63) (by rw [PyData.canLay0]; exact lay_ints l) (by rw [PyData.canLay0]; exact lay_ints k), PyData.eqv, eqv_ints]
theorem rng_ints (n : Nat) : intsFrom 0 n = intsD (List.range n) := by
  unfold intsFrom intsD
  refine List.map_congr_left fun k _ => ?_
  rw [Int.zero_add]
theorem x_rngO {n : Nat} {S : Store} (h : n ≤ 16777216) : rngO 0 (n : Int) S = .ok (intsD (List.range n)) S := by
  unfold rngO
  rw [if_pos ⟨by omega, by omega, by omega, by omega, by omega⟩, Int.sub_zero, Int.toNat_natCast, rng_ints]
@[simp] theorem x_rngN1 (m : ME) (l : Loc) (S : Store) : rngN1 m l S = (m l S).bind fun d S1 => match intO d with
  | some b => rngO 0 b S1
  | none => .bad := (rfl)
@[simp] theorem x_rngN2 (m n : ME) (l : Loc) (S : Store) : rngN2 m n l S = (m l S).bind fun d S1 => (n l S1).bind fun e S2 => match intO d, intO e with
  | some a, some b => rngO a b S2
  | _, _ => .bad := (rfl)
theorem get_set_ne {S : Store} {i j : Nat} {c : Cell} (h : i ≠ j) : (S.set i c)[j]? = S[j]? := List.getElem?_set_ne h
theorem get_set_at {S : Store} {i : Nat} {c d : Cell} (h : S[i]? = some d) : (S.set i c)[i]? = some c := List.getElem?_set_self (List.getElem?_eq_some_iff.mp h).1
theorem lt_of_at {S : Store} {i : Nat} {c : Cell} (h : S[i]? = some c) : i < S.length := (List.getElem?_eq_some_iff.mp h).1
theorem Reach.lt {succ : Nat → List Nat} {vs : List Nat} {n k : Nat} (h1 : ∀ j ∈ vs, j < n) (h2 : ∀ j < n, ∀ i ∈ succ j, i < n) (h : Reach succ vs k) : k < n := by
  induction h with
  | base h => exact h1 _ h
  | step _ e ih => exact h2 _ ih _ e
theorem IsCl.len {succ : Nat → List Nat} {vs L : List Nat} {n : Nat} (h : IsCl succ vs L) (h1 : ∀ j ∈ vs, j < n) (h2 : ∀ j < n, ∀ i ∈ succ j, i < n) : L.length ≤ n := by
  have e : L = (List.range n).filter fun k => decide (k ∈ L) := rising_eq h.1 (List.pairwise_lt_range.filter _) fun k => by
    rw [List.mem_filter, List.mem_range]
    simp
    exact fun hk => Reach.lt h1 h2 ((h.2 k).mp hk)
  rw [e]
  refine Nat.le_trans (List.length_filter_le _ _) ?_
  rw [List.length_range]
  exact Nat.le_refl _
theorem x_slW (xs : List D) (lo hi : Option Int) (S : Store) : sliceD (.lis xs) lo hi S = .ok (.ref S.length) (S ++ [.lst (cutD xs lo hi)]) := (rfl)
theorem cutD_mem {xs : List D} {lo hi : Option Int} {d : D} (h : d ∈ cutD xs lo hi) : d ∈ xs := by
  unfold cutD at h
  exact List.mem_of_mem_drop (List.mem_of_mem_take h)
theorem cutD_len (xs : List D) (lo hi : Option Int) : (cutD xs lo hi).length ≤ xs.length := by
  unfold cutD
  rw [List.length_take, List.length_drop]
  omega
theorem x_setLst {S : Store} {n k : Nat} {xs : List D} {v : D} (h : S[n]? = some (.lst xs)) (hk : k < xs.length) : setO S (.ref n) (.int (k : Int)) v = some (S.set n (.lst (xs.set k v))) := by
  unfold setO
  simp only [h]
  have e : ixN xs.length (k : Int) = some k := by
    unfold ixN
    simp
    omega
  rw [e]
  rfl
theorem x_reverse {S : Store} {n : Nat} {xs : List D} (h : lstAt S n = some xs) : reverseM (.ref n) [] S = .ok .non (S.set n (.lst xs.reverse)) := by
  unfold reverseM
  simp only [h]
/-- a comprehension over pairs -/
theorem comp_pairs {chk : Store → Prop} {i j : Nat} {m : ME} {l : Loc} {S : Store} (hk : chk S) (ps : List (D × D)) (hm : ∀ p ∈ ps, m ((l.set i (some p.1)).set j (some p.2)) S = .ok (.bl true) S) : ∀ (acc : List D), acc.length + ps.length ≤ 16777216 → compL chk (.many [i, j]) yesM m l (ps.map fun p => .tup [p.1, p.2]) acc S = .ok (acc ++ ps.map fun _ => .bl true) S := by
  induction ps with
  | nil => intro acc _; rw [List.map_nil, compL_nil hk]; simp
  | cons p ps ih =>
    intro acc hz
    rw [List.length_cons] at hz
    have h1 := hm p List.mem_cons_self
    rw [List.map_cons, compL_cons hk]
    simp only [Tgt.put, namesL, x_yes, R.bind_ok, if_true, h1]
    rw [if_pos (show _ < sizeLine by rw [sz]; omega), ih (fun q hq => hm q (List.mem_cons_of_mem _ hq)) _ (by simp; omega)]
    simp
end ML

set_option Elab.async false
set_option linter.all false
set_option maxRecDepth 100000
set_option autoImplicit false
/-! ML16: dicts: pop, dict([..]); methods within a try. -/
namespace ML
open PySem PySem.Spec L2

/-! ### d.pop(k) -/
def dpopE (m n : ME) : ME := fun l S => (m l S).bind fun d S1 => match d with
  | .ref i => match dctAt S1 i with
    | some _ => (n l S1).bind fun e S2 => match dctAt S2 i with
      | some kvs => match keyO e with
        | some k => match dLook kvs k with
          | some v => .ok v (S2.set i (.dct (dDrop kvs k)))
          | none => .bad
        | none => .bad
      | none => .bad
    | none => .bad
  | _ => .bad
section
variable {X : Cx} {cA : Nat → Addr} {W : XK} {K : PySem.W.Frag} {ρ : List Addr} {H : Hp}
theorem drop_rep {k : Key} : ∀ {kvs : List (Key × D)} {ps : List (Key × V)}, RepP K ρ H kvs ps → RepP K ρ H (dDrop kvs k) (dropK ps k)
  | [], ps, h => by unfold RepP at h; subst h; unfold RepP; rfl
  | (j, x) :: r, ps, h => by
    unfold RepP at h
    obtain ⟨v, q, rfl, h1, h2⟩ := h
    unfold dDrop dropK
    rw [List.filter_cons, List.filter_cons]
    by_cases e : j = k
    · simp only [e, ne_eq, not_true_eq_false, decide_false, Bool.false_eq_true, if_false]
      exact drop_rep h2
    · simp only [ne_eq, e, not_false_eq_true, decide_true, if_true]
      exact ⟨v, _, rfl, h1, drop_rep h2⟩
variable {o e : Expr} {m n : ME} {apos cpos : Pos}
theorem mdpop (ho : PE X o (tE X.K cA W m)) (he : PE X e (tE X.K cA W n)) (hM : M1 X o "pop" apos e cpos := by exact ⟨rfl, rfl, rfl, rfl⟩) : PE X (.Call (.Attribute o "pop" apos) [e] [] cpos) (tE X.K cA W (dpopE m n)) :=
  (pe_dpop1 ho he hM).imp fun σ H Q h => (bind1L (rep1 := rV X.K) st_V h).imp fun x H1 h => by
    obtain ⟨ρ, S, l, d, hS, hl, hr, h⟩ := h
    split at h
    · rename_i i
      split at h
      · rename_i kvs0 e0
        obtain ⟨a, ps, rfl, ha, h1, h2⟩ := rdct_rep hS hr e0
        refine ⟨a, rfl, .inl ⟨ps, .inl h1⟩, ρ, S, l, hS, hl, (After.bind (rep := rV X.K) st_V h).imp fun y H2 h => ?_⟩
        obtain ⟨ρ2, S2, ed, e2, hS2, hr2, h⟩ := h
        split at h
        · rename_i kvs e3
          obtain ⟨a', ps', ea, ha', h3, h4⟩ := rdct_rep hS2 (hr.ext e2) e3
          cases ea
          split at h
          · rename_i k ek
            split at h
            · rename_i v ev
              have := key_rep ek hr2
              subst this
              have hv := look_rep k h4
              rw [ev] at hv
              obtain ⟨w, hw, rw'⟩ := hv
              have E : Ext ρ2 H2 ρ2 (upd H2 a (.dK (dropK ps' k))) := Ext.write ha' h3 True.intro
              exact ⟨ps', k, w, h3, rfl, hw, h ρ2 _ _ E (hS2.write ha' h3 True.intro ⟨_, upd_same, (drop_rep h4).ext E⟩) (rw'.ext E)⟩
            · exact h.elim
          · exact h.elim
        · exact h.elim
      · exact h.elim
    · exact h.elim
end

/-! ### dict([..]) of pairs -/
def pairO : D → Option (Key × D)
  | .tup [k, v] => (keyO k).map fun k => (k, v)
  | _ => none
def pairsL (ds : List D) (S : Store) : R D := match mapO pairO ds with
  | some kvs => newC (.dct (mergeD [] kvs)) S
  | none => .bad
section
variable {X : Cx} {cA : Nat → Addr} {W : XK} {K : PySem.W.Frag} {ρ : List Addr} {H : Hp}
theorem pairs_rep : ∀ {ds : List D} {vs : List V} {kvs : List (Key × D)}, mapO pairO ds = some kvs → RepVs K ρ H ds vs → ∃ ps qs, vs = ps.map V.ref ∧ Paired (fun p (kv : Key × V) => SqT K H p [kV kv.1, kv.2]) ps qs ∧ RepP K ρ H kvs qs
  | [], vs, kvs, h, r => by unfold RepVs at r; subst r; cases h; exact ⟨[], [], rfl, .nil, by unfold RepP; rfl⟩
  | d :: ds, vs, kvs, h, r => by
    unfold RepVs at r
    obtain ⟨v, q, rfl, h1, h2⟩ := r
    unfold mapO at h
    split at h
    · rename_i kv kvs' e1 e2
      cases h
      obtain ⟨ps, qs, rfl, h3, h4⟩ := pairs_rep e2 h2
      unfold pairO at e1
      split at e1
      · rename_i k x
        obtain ⟨k', ek, rfl⟩ := Option.map_eq_some_iff.mp e1
        unfold RepV at h1
        obtain ⟨a, ws, rfl, h5, h6⟩ := h1
        obtain ⟨y, z, rfl, h7, h8⟩ := two_rep h6
        have := key_rep ek h7
        subst this
        exact ⟨a :: ps, (k', z) :: qs, rfl, .cons h5 h3, z, qs, rfl, h8, h4⟩
      · cases e1
    · cases h
theorem c_pairs (hc : X.calm = true) : CallR X (.type "dict") (tL1 X.K cA W (rV X.K) pairsL) := CallR.imp (call_dictP hc) fun xs H Q h => by
  obtain ⟨ρ, S, ds, p, vs, hS, rfl, h1, h2, h⟩ := h
  unfold pairsL at h
  split at h
  · rename_i kvs e
    obtain ⟨ps, qs, rfl, h3, h4⟩ := pairs_rep e h2
    exact ⟨p, ps, qs, rfl, h1, h3, fun q hq => After.new h hS hq ⟨_, upd_same, (merge_rep h4 (by unfold RepP; rfl)).ext (Ext.new hq)⟩⟩
  · exact h.elim
end

/-! ### o.m(e, ..) within a try -/
section
variable {X : Cx} {cA : Nat → Addr} {W : WX} {p pos apos : Pos} {x m : Str} {e o : Expr} {es : List Expr} {mo : ME} {ma : MA} {k j n c : Nat} {tbl : Tbl}
theorem meth_ok {pl : Sem Bool} {f C : Addr} {fd : FuncData} {ps : List Str} {sp : Sp} {ta : TE} {t : TA} (he : PE X o ta) (hC : Cls X.K C) (hm : Meth X.K C m f)
    (F : FnOk X.prog X.w X.K X.mg X.base (L2.CX X.prog X.w) k f fd ps sp) (hr : Room k X.A) (hb : Binds X.K fd ps []) (tk : Takes X W) (ha : PA X (e :: es) t)
    (hst : starEach (e :: es) X.env = (false, eval e X.env) :: starEach es X.env) (hpl : (backTo pos (starEach es X.env)).any (·.1) = false)
    (ht : eval (.Call (.Attribute o m apos) (e :: es) [] pos) X.env = (do
      let ov ← eval o X.env
      standAt apos.atName
      let (f, first) ← holding [ov] (getMethod ov m pl)
      callWith pos f first (backTo pos (starEach (e :: es) X.env)) (backToKw pos (keywordEach [] X.env)))) :
    PE X (.Call (.Attribute o m apos) (e :: es) [] pos) (fun σ H Q => ta σ H fun x H1 => ∃ a dx fs, x = .ref a ∧ H1 a = some (.ins C dx fs) ∧ fs.lookup m = none ∧ t σ H1 fun vs H2 => sp (x :: vs) H2 Q (L2.WE W σ)) := by
  refine ⟨fun pins s σ H Q I h => ?_⟩
  refine PySem.W.methodCall_KW (pl := pl) (thn (he.run pins s σ H _ I h) fun u s1 ⟨x, H1, I1, rx, a, dx, fs, ex, ea, l, q⟩ => ?_) ht
  subst ex
  obtain rfl : u = Value.ref a := rx
  refine getmeth_ok I1 ea hC hm l ?_
  refine PySem.W.callWith_K (first := [.ref a]) (h₀ := X.base) I.ok.mod.kin hm.kp (thn (ha.run pos pins s1 σ H1 _ I1 q) fun us s2 ⟨vs, H2, I2, r, q2⟩ => ⟨I2.kIn, ?_⟩) hst hpl
  exact run_fnS (us := .ref a :: us) (vs := .ref a :: vs) F hr hb (passAt tk σ) I2 (.cons rfl r) q2
theorem xmeth {pl : Sem Bool} (T : MtL X.prog X.w X.K X.mg X.base cA j m n tbl) (hr : Room j X.A) (tk : Takes X W) (ho : ∀ W0 : XK, PE X o (tE X.K cA W0 mo)) (ha : ∀ W0 : XK, PA X (e :: es) (tAs X.K cA W0 ma))
    (hst : starEach (e :: es) X.env = (false, eval e X.env) :: starEach es X.env := by rfl) (hpl : (backTo pos (starEach es X.env)).any (·.1) = false := by rfl)
    (ht : eval (.Call (.Attribute o m apos) (e :: es) [] pos) X.env = (do
      let ov ← eval o X.env
      standAt apos.atName
      let (f, first) ← holding [ov] (getMethod ov m pl)
      callWith pos f first (backTo pos (starEach (e :: es) X.env)) (backToKw pos (keywordEach [] X.env))) := by rfl) : PE X (.Call (.Attribute o m apos) (e :: es) [] pos) (tEX X.K cA W (methE m n tbl mo ma)) := by
  refine ⟨fun pins s σ H Q I h => ?_⟩
  obtain ⟨ρ, S, l, hS, hl, h⟩ := h
  have hA : PA X (e :: es) (fun σ H Q => tAs X.K cA (L2.WE W σ) ma σ H Q) := ⟨fun pos pins s σ H Q I q => (ha (L2.WE W σ)).run pos pins s σ H Q I q⟩
  have hO : PE X o (fun σ H Q => tE X.K cA (L2.WE W σ) mo σ H Q) := ⟨fun pins s σ H Q I q => (ho (L2.WE W σ)).run pins s σ H Q I q⟩
  cases eo : mo l S with
  | ok d S1 =>
    unfold methE at h
    rw [eo] at h
    simp only [R.noex, R.bind_ok] at h
    split at h
    · rename_i i
      split at h
      · rename_i c fs ei
        split at h
        · rename_i hf
          split at h
          · rename_i G eG
            obtain ⟨k, hk, M⟩ := tbl_of T eG
            obtain ⟨f, fd, ps, hC, hM, hb, F⟩ := M.ex
            refine (meth_ok (pl := pl) hO hC hM F (hr.mono hk) hb tk hA hst hpl ht).run pins s σ H Q I ⟨ρ, S, l, hS, hl, ?_⟩
            rw [eo]
            intro ρ1 H1 v e1 hS1 hv
            obtain ⟨a, dx, vs, rfl, _, h1, h2⟩ := rins_rep hS1 hv ei
            refine ⟨a, dx, vs, rfl, h1, fld_none h2 hf, ρ1, S1, l, hS1, hl.ext e1, (After.step (rep := rVs X.K) h e1).imp fun us H2 hq => ?_⟩
            obtain ⟨ρ2, S2, ds, e2, hS2, hr2, h⟩ := hq
            split at h
            · rename_i hn
              exact ⟨by rw [List.length_cons, RepVs.length hr2]; exact hn, ρ2, S2, .ref i :: ds, hS2, .cons (hv.ext e2) hr2, After.back st_V (e1.trans e2) h⟩
            · exact h.elim
          · exact h.elim
        · exact h.elim
      · exact h.elim
    · exact h.elim
  | ex z S1 =>
    unfold methE at h
    rw [eo] at h
    exact h.elim
  | bad =>
    unfold methE at h
    rw [eo] at h
    exact h.elim
end
end ML

set_option Elab.async false
set_option linter.all false
set_option maxRecDepth 100000
set_option autoImplicit false
/-! ML17: more reckoning: dicts by key, equality with itself, rows that leave something behind. -/
namespace ML
open PySem PySem.Spec L2
mutual
theorem eqv_self : ∀ p : PyData, p.canLay0 = true → PyData.eqv p p = true
  | .none, _ => by simp [PyData.eqv]
  | .bool b, _ => by simp [PyData.eqv]
  | .int i, _ => by simp [PyData.eqv]
  | .str x, _ => by simp [PyData.eqv]
  | .list xs, h => by
    rw [PyData.canLay0] at h
    rw [PyData.eqv]
    exact eqvs_self xs h
  | .tuple xs, h => by
    rw [PyData.canLay0] at h
    rw [PyData.eqv]
    exact eqvs_self xs h
  | .dict _, h => by rw [PyData.canLay0] at h; cases h
theorem eqvs_self : ∀ ps : List PyData, PyData.canLayAll0 ps = true → PyData.eqvAll ps ps = true
  | [], _ => by simp [PyData.eqvAll]
  | p :: ps, h => by
    rw [PyData.canLayAll0, Bool.and_eq_true] at h
    rw [PyData.eqvAll, eqv_self p h.1, eqvs_self ps h.2]
    rfl
end
theorem eqLs_self {S : Store} {xs : List D} {ps : List PyData} (h : mapO (toPy S 63) xs = some ps) (c : PyData.canLayAll0 ps = true) : eqLs S xs xs = some true := by
  rw [eqLs_of h h c c, eqvs_self ps c]
/-! ### dicts of things by number -/
section
variable {α : Type}
def dK (k : α → Nat) (f : α → D) (ps : List α) : List (Key × D) := ps.map fun p => (.inl (k p : Int), f p)
def atK (k : α → Nat) (ps : List α) (i : Nat) : Option α := ps.find? fun p => decide (k p = i)
theorem dK_look (k : α → Nat) (f : α → D) (i : Nat) : ∀ ps : List α, dLook (dK k f ps) (.inl (i : Int)) = (atK k ps i).map f
  | [] => rfl
  | p :: ps => by
    have ih := dK_look k f i ps
    unfold dK dLook atK at ih ⊢
    rw [List.map_cons, List.find?_cons, List.find?_cons]
    by_cases e : k p = i
    · simp [e]
    · have h2 : ¬ ((Sum.inl (k p : Int) : Key) = Sum.inl (i : Int)) := fun z => e (by have := Sum.inl.inj z; omega)
      simp only [h2, e, decide_false]
      exact ih
theorem atK_mem {k : α → Nat} {ps : List α} {i : Nat} (h : i ∈ ps.map k) : ∃ p, atK k ps i = some p ∧ p ∈ ps ∧ k p = i := by
  obtain ⟨q, hq, e⟩ := List.mem_map.mp h
  cases h2 : atK k ps i with
  | none =>
    unfold atK at h2
    rw [List.find?_eq_none] at h2
    exact absurd (by simpa using e) (h2 q hq)
  | some p =>
    unfold atK at h2
    exact ⟨p, rfl, List.mem_of_find?_eq_some h2, by simpa using List.find?_some h2⟩
theorem atK_none {k : α → Nat} {ps : List α} {i : Nat} (h : i ∉ ps.map k) : atK k ps i = none := by
  unfold atK
  rw [List.find?_eq_none]
  intro p hp
  simp
  intro e
  exact h (List.mem_map.mpr ⟨p, hp, e⟩)
theorem dK_keys (k : α → Nat) (f : α → D) (ps : List α) : ((dK k f ps).map fun kv => keyD kv.1) = intsD (ps.map k) := by
  unfold dK intsD
  rw [List.map_map, List.map_map]
  rfl
theorem dK_len (k : α → Nat) (f : α → D) (ps : List α) : (dK k f ps).length = ps.length := by simp [dK]
theorem dK_put {k : α → Nat} {f : α → D} {ps : List α} {q : α} (h : k q ∉ ps.map k) : dPut (dK k f ps) (.inl (k q : Int)) (f q) = dK k f (ps ++ [q]) := by
  unfold dPut
  rw [if_neg]
  · simp [dK]
  · intro z
    rw [List.any_eq_true] at z
    obtain ⟨p, hp, e⟩ := z
    unfold dK at hp
    obtain ⟨r, hr, rfl⟩ := List.mem_map.mp hp
    have := Sum.inl.inj (of_decide_eq_true e)
    exact h (List.mem_map.mpr ⟨r, hr, by omega⟩)
theorem dK_set {k : α → Nat} {f : α → D} {ps : List α} {q : α} (h : k q ∈ ps.map k) : dPut (dK k f ps) (.inl (k q : Int)) (f q) = dK k f (ps.map fun p => if k p = k q then q else p) := by
  unfold dPut
  rw [if_pos]
  · unfold dK
    rw [List.map_map, List.map_map]
    refine List.map_congr_left fun p _ => ?_
    simp only [Function.comp]
    by_cases e : k p = k q
    · simp [e]
    · have h2 : ¬ ((Sum.inl (k p : Int) : Key) = Sum.inl (k q : Int)) := fun z => e (by have := Sum.inl.inj z; omega)
      simp [h2, e]
  · rw [List.any_eq_true]
    obtain ⟨p, hp, e⟩ := List.mem_map.mp h
    exact ⟨(.inl (k p : Int), f p), List.mem_map.mpr ⟨p, hp, rfl⟩, by simp [e]⟩
theorem dK_drop (k : α → Nat) (f : α → D) (ps : List α) (i : Nat) : dDrop (dK k f ps) (.inl (i : Int)) = dK k f (ps.filter fun p => decide (k p ≠ i)) := by
  unfold dDrop dK
  rw [List.filter_map]
  congr 1
  refine List.filter_congr fun p _ => ?_
  simp only [Function.comp]
  by_cases e : k p = i
  · simp [e]
  · have h2 : ¬ ((Sum.inl (k p : Int) : Key) = Sum.inl (i : Int)) := fun z => e (by have := Sum.inl.inj z; omega)
    simp [h2, e]
end
theorem x_dpop {S : Store} {m n : ME} {l : Loc} {i : Nat} {kvs : List (Key × D)} {k : Nat} {v : D} (hm : m l S = .ok (.ref i) S) (hn : n l S = .ok (.int (k : Int)) S) (h : S[i]? = some (.dct kvs)) (hv : dLook kvs (.inl (k : Int)) = some v) : dpopE m n l S = .ok v (S.set i (.dct (dDrop kvs (.inl (k : Int))))) := by
  unfold dpopE
  simp only [hm, hn, R.bind_ok, dctAt_of h, keyO, hv]
/-- the kept numbers as a dict -/
theorem pairs_seen (l : List Nat) (h : l.Nodup) (S : Store) : pairsL (l.map fun k : Nat => D.tup [.int (k : Int), .bl true]) S = .ok (.ref S.length) (S ++ [.dct (seenD l)]) := by
  have e : mapO pairO (l.map fun k : Nat => D.tup [.int (k : Int), .bl true]) = some (l.map fun k : Nat => ((.inl (k : Int), .bl true) : Key × D)) := mapO_some (f := pairO) (g := fun k : Nat => D.tup [.int (k : Int), .bl true]) (h := fun k : Nat => ((.inl (k : Int), .bl true) : Key × D)) (fun _ => rfl) l
  unfold pairsL
  rw [e]
  have gen : ∀ (l a : List Nat), (a ++ l).Nodup → mergeD (seenD a) (l.map fun k : Nat => ((.inl (k : Int), .bl true) : Key × D)) = seenD (a ++ l) := by
    intro l
    induction l with
    | nil => intro a _; simp [mergeD]
    | cons x l ih =>
      intro a hn
      have hx : x ∉ a := by
        rw [List.nodup_append] at hn
        exact fun q => hn.2.2 x q x (by simp) rfl
      have := ih (a ++ [x]) (by simpa using hn)
      rw [List.map_cons]
      show mergeD (dPut (seenD a) (.inl (x : Int)) (.bl true)) _ = _
      rw [seen_put hx, this]
      simp
  have := gen l [] h
  simp only [List.nil_append] at this
  show newC (.dct (mergeD [] _)) S = _
  have e0 : seenD [] = [] := rfl
  rw [e0] at this
  rw [this]
  rfl
/-- a row of things, each of which may leave something behind -/
theorem rowX {α : Type} (g : α → D) (P : α → Prop) {i n : Nat} {m : ME} {l : Loc} {t : Nat} {c : Cell} (hz : n ≤ 1000) (h : ∀ k : Nat, k < n → ∃ v, P v ∧ ∀ S, S[t]? = some c → ∃ Y, m (l.set i (some (.int (k : Int)))) S = .ok (g v) (S ++ Y)) :
    ∃ vs : List α, vs.length = n ∧ (∀ v ∈ vs, P v) ∧ ∀ S, S[t]? = some c → ∃ Y, compL still (.one i) yesM m l (intsFrom 0 n) [] S = .ok (vs.map g) (S ++ Y) := by
  have gen : ∀ (ks : List Nat), (∀ k ∈ ks, k < n) → ∃ vs : List α, vs.length = ks.length ∧ (∀ v ∈ vs, P v) ∧ ∀ (acc : List D) S, acc.length + ks.length ≤ 16000000 → S[t]? = some c → ∃ Y, compL still (.one i) yesM m l (ks.map fun k : Nat => D.int (k : Int)) acc S = .ok (acc ++ vs.map g) (S ++ Y) := by
    intro ks
    induction ks with
    | nil => intro _; exact ⟨[], rfl, fun v hv => by simp at hv, fun acc S _ _ => ⟨[], by rw [List.map_nil, compL_nil trivial]; simp⟩⟩
    | cons k ks ih =>
      intro hk
      obtain ⟨v, hv, ev⟩ := h k (hk k List.mem_cons_self)
      obtain ⟨vs, h1, h2, h3⟩ := ih (fun x hx => hk x (List.mem_cons_of_mem _ hx))
      refine ⟨v :: vs, by simp [h1], fun w hw => ?_, fun acc S ha ht => ?_⟩
      · rcases List.mem_cons.mp hw with e | e
        · subst e; exact hv
        · exact h2 w e
      · rw [List.length_cons] at ha
        obtain ⟨Y, eY⟩ := ev S ht
        obtain ⟨Z, eZ⟩ := h3 (acc ++ [g v]) (S ++ Y) (by simp; omega) (at_app ht)
        refine ⟨Y ++ Z, ?_⟩
        rw [List.map_cons, compL_cons trivial]
        simp only [Tgt.put, x_yes, R.bind_ok, if_true, eY]
        rw [if_pos (show _ < sizeLine by rw [sz]; omega), eZ]
        simp
  obtain ⟨vs, h1, h2, h3⟩ := gen (List.range n) fun k hk => List.mem_range.mp hk
  refine ⟨vs, by simpa using h1, h2, fun S ht => ?_⟩
  obtain ⟨Y, e⟩ := h3 [] S (by simp; omega) ht
  refine ⟨Y, ?_⟩
  rw [rng_ints]
  exact e
end ML

set_option Elab.async false
set_option linter.all false
set_option maxRecDepth 100000
set_option autoImplicit false
set_option maxHeartbeats 4000000
namespace K25
open PySem PySem.Spec L2 ML
def topS (i : Nat) : Stmt := PySem.Challenge.pw_waitloom_k25_whole_collected.main.body.getD i (.Pass ⟨0, 0, 0, 0⟩)
abbrev s_HeapXX_initXX : Stmt := inClass (topS 12) 0
abbrev N_HeapXX_initXX : List Str := ["self"]
theorem sc_HeapXX_initXX : FnScope N_HeapXX_initXX ["self"] (defScope s_HeapXX_initXX) := ⟨rfl, rfl, rfl, by decide +kernel, rfl, by decide +kernel, by decide +kernel⟩
abbrev s_Heap_need : Stmt := inClass (topS 12) 2
abbrev N_Heap_need : List Str := ["self", "k"]
theorem sc_Heap_need : FnScope N_Heap_need ["self", "k"] (defScope s_Heap_need) := ⟨rfl, rfl, rfl, by decide +kernel, rfl, by decide +kernel, by decide +kernel⟩
abbrev s_BoxXX_initXX : Stmt := inClass (topS 5) 0
abbrev N_BoxXX_initXX : List Str := ["self", "value"]
theorem sc_BoxXX_initXX : FnScope N_BoxXX_initXX ["self", "value"] (defScope s_BoxXX_initXX) := ⟨rfl, rfl, rfl, by decide +kernel, rfl, by decide +kernel, by decide +kernel⟩
abbrev s_MakerXX_initXX : Stmt := inClass (topS 6) 0
abbrev N_MakerXX_initXX : List Str := ["self", "own", "taken"]
theorem sc_MakerXX_initXX : FnScope N_MakerXX_initXX ["self", "own", "taken"] (defScope s_MakerXX_initXX) := ⟨rfl, rfl, rfl, by decide +kernel, rfl, by decide +kernel, by decide +kernel⟩
abbrev s_WaitingXX_initXX : Stmt := inClass (topS 8) 0
abbrev N_WaitingXX_initXX : List Str := ["self", "own", "at", "slots", "boxes", "taken"]
theorem sc_WaitingXX_initXX : FnScope N_WaitingXX_initXX ["self", "own", "at", "slots", "boxes", "taken"] (defScope s_WaitingXX_initXX) := ⟨rfl, rfl, rfl, by decide +kernel, rfl, by decide +kernel, by decide +kernel⟩
abbrev s_thing_of : Stmt := topS 10
abbrev N_thing_of : List Str := ["told"]
theorem sc_thing_of : FnScope N_thing_of ["told"] (defScope s_thing_of) := ⟨rfl, rfl, rfl, by decide +kernel, rfl, by decide +kernel, by decide +kernel⟩
abbrev s_Heap_change : Stmt := inClass (topS 12) 3
abbrev N_Heap_change : List Str := ["self", "k", "thing"]
theorem sc_Heap_change : FnScope N_Heap_change ["self", "k", "thing"] (defScope s_Heap_change) := ⟨rfl, rfl, rfl, by decide +kernel, rfl, by decide +kernel, by decide +kernel⟩
abbrev s_Heap_numbers : Stmt := inClass (topS 12) 5
abbrev N_Heap_numbers : List Str := ["self"]
theorem sc_Heap_numbers : FnScope N_Heap_numbers ["self"] (defScope s_Heap_numbers) := ⟨rfl, rfl, rfl, by decide +kernel, rfl, by decide +kernel, by decide +kernel⟩
abbrev s_Heap_put : Stmt := inClass (topS 12) 1
abbrev N_Heap_put : List Str := ["self", "thing"]
theorem sc_Heap_put : FnScope N_Heap_put ["self", "thing"] (defScope s_Heap_put) := ⟨rfl, rfl, rfl, by decide +kernel, rfl, by decide +kernel, by decide +kernel⟩
abbrev s_Box_holds : Stmt := inClass (topS 5) 2
abbrev N_Box_holds : List Str := ["self"]
theorem sc_Box_holds : FnScope N_Box_holds ["self"] (defScope s_Box_holds) := ⟨rfl, rfl, rfl, by decide +kernel, rfl, by decide +kernel, by decide +kernel⟩
abbrev s_boxes_as_values : Stmt := topS 9
abbrev N_boxes_as_values : List Str := ["numbers", "number"]
theorem sc_boxes_as_values : FnScope N_boxes_as_values ["numbers"] (defScope s_boxes_as_values) := ⟨rfl, rfl, rfl, by decide +kernel, rfl, by decide +kernel, by decide +kernel⟩
abbrev s_Maker_holds : Stmt := inClass (topS 6) 3
abbrev N_Maker_holds : List Str := ["self"]
theorem sc_Maker_holds : FnScope N_Maker_holds ["self"] (defScope s_Maker_holds) := ⟨rfl, rfl, rfl, by decide +kernel, rfl, by decide +kernel, by decide +kernel⟩
abbrev s_Waiting_holds : Stmt := inClass (topS 8) 3
abbrev N_Waiting_holds : List Str := ["self", "found", "value"]
theorem sc_Waiting_holds : FnScope N_Waiting_holds ["self"] (defScope s_Waiting_holds) := ⟨rfl, rfl, rfl, by decide +kernel, rfl, by decide +kernel, by decide +kernel⟩
abbrev s_Heap_reached : Stmt := inClass (topS 12) 6
abbrev N_Heap_reached : List Str := ["self", "values", "seen", "todo", "value"]
theorem sc_Heap_reached : FnScope N_Heap_reached ["self", "values"] (defScope s_Heap_reached) := ⟨rfl, rfl, rfl, by decide +kernel, rfl, by decide +kernel, by decide +kernel⟩
abbrev s_Heap_collect : Stmt := inClass (topS 12) 7
abbrev N_Heap_collect : List Str := ["self", "values", "kept", "gone", "number"]
theorem sc_Heap_collect : FnScope N_Heap_collect ["self", "values"] (defScope s_Heap_collect) := ⟨rfl, rfl, rfl, by decide +kernel, rfl, by decide +kernel, by decide +kernel⟩
abbrev s__law_chain : Stmt := topS 24
abbrev N__law_chain : List Str := ["_law_cell", "_law_heap", "_law_many", "_law_k", "_law_at"]
theorem sc__law_chain : FnScope N__law_chain ["_law_cell"] (defScope s__law_chain) := ⟨rfl, rfl, rfl, by decide +kernel, rfl, by decide +kernel, by decide +kernel⟩
abbrev s__law_values : Stmt := topS 19
abbrev N__law_values : List Str := ["_law_thing_here", "_law_found", "_law_part", "_law_one"]
theorem sc__law_values : FnScope N__law_values ["_law_thing_here"] (defScope s__law_values) := ⟨rfl, rfl, rfl, by decide +kernel, rfl, by decide +kernel, by decide +kernel⟩
abbrev s__law_reached : Stmt := topS 20
abbrev N__law_reached : List Str := ["_law_things", "_law_values_here", "_law_found", "_law_todo", "_law_value_here"]
theorem sc__law_reached : FnScope N__law_reached ["_law_things", "_law_values_here"] (defScope s__law_reached) := ⟨rfl, rfl, rfl, by decide +kernel, rfl, by decide +kernel, by decide +kernel⟩
abbrev s__law_collected : Stmt := topS 23
abbrev N__law_collected : List Str := ["_law_heap", "_law_things", "_law_values_here", "_law_held", "_law_handed", "_law_kept", "_law_due", "_law_found", "_law_k"]
theorem sc__law_collected : FnScope N__law_collected ["_law_heap", "_law_things", "_law_values_here", "_law_held"] (defScope s__law_collected) := ⟨rfl, rfl, rfl, by decide +kernel, rfl, by decide +kernel, by decide +kernel⟩
abbrev s__law_draw : Stmt := topS 14
abbrev N__law_draw : List Str := ["_law_script", "_law_k"]
theorem sc__law_draw : FnScope N__law_draw ["_law_script", "_law_k"] (defScope s__law_draw) := ⟨rfl, rfl, rfl, by decide +kernel, rfl, by decide +kernel, by decide +kernel⟩
abbrev s_Box_shape : Stmt := inClass (topS 5) 1
abbrev N_Box_shape : List Str := ["self"]
theorem sc_Box_shape : FnScope N_Box_shape ["self"] (defScope s_Box_shape) := ⟨rfl, rfl, rfl, by decide +kernel, rfl, by decide +kernel, by decide +kernel⟩
abbrev s_Looper_kind_word : Stmt := inClass (topS 7) 0
abbrev N_Looper_kind_word : List Str := ["self"]
theorem sc_Looper_kind_word : FnScope N_Looper_kind_word ["self"] (defScope s_Looper_kind_word) := ⟨rfl, rfl, rfl, by decide +kernel, rfl, by decide +kernel, by decide +kernel⟩
abbrev s_Maker_kind_word : Stmt := inClass (topS 6) 1
abbrev N_Maker_kind_word : List Str := ["self"]
theorem sc_Maker_kind_word : FnScope N_Maker_kind_word ["self"] (defScope s_Maker_kind_word) := ⟨rfl, rfl, rfl, by decide +kernel, rfl, by decide +kernel, by decide +kernel⟩
abbrev s_Waiting_kind_word : Stmt := inClass (topS 8) 1
abbrev N_Waiting_kind_word : List Str := ["self"]
theorem sc_Waiting_kind_word : FnScope N_Waiting_kind_word ["self"] (defScope s_Waiting_kind_word) := ⟨rfl, rfl, rfl, by decide +kernel, rfl, by decide +kernel, by decide +kernel⟩
abbrev s_Maker_shape : Stmt := inClass (topS 6) 2
abbrev N_Maker_shape : List Str := ["self"]
theorem sc_Maker_shape : FnScope N_Maker_shape ["self"] (defScope s_Maker_shape) := ⟨rfl, rfl, rfl, by decide +kernel, rfl, by decide +kernel, by decide +kernel⟩
abbrev s_Waiting_shape : Stmt := inClass (topS 8) 2
abbrev N_Waiting_shape : List Str := ["self"]
theorem sc_Waiting_shape : FnScope N_Waiting_shape ["self"] (defScope s_Waiting_shape) := ⟨rfl, rfl, rfl, by decide +kernel, rfl, by decide +kernel, by decide +kernel⟩
abbrev s_Heap_thing : Stmt := inClass (topS 12) 4
abbrev N_Heap_thing : List Str := ["self", "k"]
theorem sc_Heap_thing : FnScope N_Heap_thing ["self", "k"] (defScope s_Heap_thing) := ⟨rfl, rfl, rfl, by decide +kernel, rfl, by decide +kernel, by decide +kernel⟩
abbrev s__law_is_gone : Stmt := topS 21
abbrev N__law_is_gone : List Str := ["_law_heap", "_law_k", "e"]
theorem sc__law_is_gone : FnScope N__law_is_gone ["_law_heap", "_law_k"] (defScope s__law_is_gone) := ⟨rfl, rfl, rfl, by decide +kernel, rfl, by decide +kernel, by decide +kernel⟩
abbrev s__law_right : Stmt := topS 22
abbrev N__law_right : List Str := ["_law_heap", "_law_things", "_law_count", "_law_there", "_law_k"]
theorem sc__law_right : FnScope N__law_right ["_law_heap", "_law_things", "_law_count"] (defScope s__law_right) := ⟨rfl, rfl, rfl, by decide +kernel, rfl, by decide +kernel, by decide +kernel⟩
abbrev s__law_spread : Stmt := topS 15
abbrev N__law_spread : List Str := ["_law_cell", "_law_k"]
theorem sc__law_spread : FnScope N__law_spread ["_law_cell", "_law_k"] (defScope s__law_spread) := ⟨rfl, rfl, rfl, by decide +kernel, rfl, by decide +kernel, by decide +kernel⟩
abbrev s__law_boxes : Stmt := topS 17
abbrev N__law_boxes : List Str := ["_law_cell", "_law_there", "_law_k"]
theorem sc__law_boxes : FnScope N__law_boxes ["_law_cell", "_law_there"] (defScope s__law_boxes) := ⟨rfl, rfl, rfl, by decide +kernel, rfl, by decide +kernel, by decide +kernel⟩
abbrev s__law_value : Stmt := topS 16
abbrev N__law_value : List Str := ["_law_cell", "_law_there"]
theorem sc__law_value : FnScope N__law_value ["_law_cell", "_law_there"] (defScope s__law_value) := ⟨rfl, rfl, rfl, by decide +kernel, rfl, by decide +kernel, by decide +kernel⟩
abbrev s__law_thing : Stmt := topS 18
abbrev N__law_thing : List Str := ["_law_cell", "_law_there", "_law_more", "_law_at", "_law_slots", "_law_k"]
theorem sc__law_thing : FnScope N__law_thing ["_law_cell", "_law_there"] (defScope s__law_thing) := ⟨rfl, rfl, rfl, by decide +kernel, rfl, by decide +kernel, by decide +kernel⟩
abbrev s_law : Stmt := topS 25
abbrev N_law : List Str := ["_law_script", "_law_heaps", "_law_things", "_law_counts", "_law_held", "_law_cell", "_law_side", "_law_there", "_law_way", "_law_k", "_law_thing_here", "_law_at", "_law_values_here", "_law_due", "_law_found"]
theorem sc_law : FnScope N_law ["_law_script"] (defScope s_law) := ⟨rfl, rfl, rfl, by decide +kernel, rfl, by decide +kernel, by decide +kernel⟩
def hit_LoomError (c : Nat) : Option Bool := match c with
  | 1 => some true
  | _ => none
def kis (c : Nat) (n : CN) : Option Bool := match c, n with
  | 1, .own 1 => some true
  | _, _ => none
noncomputable def m_HeapXX_initXX : MS := seqS (fldS [7] "there" (varE 0) (dict0)) (fldS [7] "count" (varE 0) (conE (.int 0)))
noncomputable def F_HeapXX_initXX : List D → Store → R D := bodyF N_HeapXX_initXX.length m_HeapXX_initXX
noncomputable def m_Heap_need : MS := ifS (orM (notM (ofV (toV (isE "int" (varE 1))))) (orM (ofV (toV (isE "bool" (varE 1)))) (cmpM notInD (varE 1) (fldE [7] "there" (varE 0))))) (raiseS 1) (nilS)
noncomputable def F_Heap_need : List D → Store → R D := bodyF N_Heap_need.length m_Heap_need
noncomputable def m_BoxXX_initXX : MS := fldS [3] "value" (varE 0) (varE 1)
noncomputable def F_BoxXX_initXX : List D → Store → R D := bodyF N_BoxXX_initXX.length m_BoxXX_initXX
noncomputable def m_MakerXX_initXX : MS := seqS (fldS [4, 5, 6] "own" (varE 0) (varE 1)) (fldS [4, 5, 6] "taken" (varE 0) (varE 2))
noncomputable def F_MakerXX_initXX : List D → Store → R D := bodyF N_MakerXX_initXX.length m_MakerXX_initXX
noncomputable def m_WaitingXX_initXX : MS := seqS (fldS [4, 5, 6] "own" (varE 0) (varE 1)) (seqS (fldS [6] "at" (varE 0) (varE 2)) (seqS (fldS [6] "slots" (varE 0) (varE 3)) (seqS (fldS [6] "boxes" (varE 0) (varE 4)) (fldS [4, 5, 6] "taken" (varE 0) (varE 5)))))
noncomputable def F_WaitingXX_initXX : List D → Store → R D := bodyF N_WaitingXX_initXX.length m_WaitingXX_initXX
noncomputable def m_thing_of : MS := seqS (ifS (cmpM eqD (binE ixD (varE 0) (conE (.int 0))) (conE (.str (Str.ofString "box")))) (retS (makeE 3 2 F_BoxXX_initXX (consA (binE ixD (varE 0) (conE (.int 1))) (nilA)))) (nilS)) (seqS (ifS (cmpM eqD (binE ixD (varE 0) (conE (.int 0))) (conE (.str (Str.ofString "fun")))) (retS (makeE 4 3 F_MakerXX_initXX (consA (binE ixD (varE 0) (conE (.int 1))) (consA (binE ixD (varE 0) (conE (.int 2))) (nilA))))) (nilS)) (seqS (ifS (cmpM eqD (binE ixD (varE 0) (conE (.int 0))) (conE (.str (Str.ofString "loop")))) (retS (makeE 5 3 F_MakerXX_initXX (consA (binE ixD (varE 0) (conE (.int 1))) (consA (binE ixD (varE 0) (conE (.int 2))) (nilA))))) (nilS)) (retS (makeE 6 6 F_WaitingXX_initXX (consA (binE ixD (varE 0) (conE (.int 1))) (consA (binE ixD (varE 0) (conE (.int 2))) (consA (binE ixD (varE 0) (conE (.int 3))) (consA (binE ixD (varE 0) (conE (.int 4))) (consA (binE ixD (varE 0) (conE (.int 5))) (nilA))))))))))
noncomputable def F_thing_of : List D → Store → R D := bodyF N_thing_of.length m_thing_of
noncomputable def m_Heap_change : MS := seqS (exprS (methE "need" 2 [(7, F_Heap_need)] (varE 0) (consA (varE 1) (nilA)))) (asgS (subT (fldE [7] "there" (varE 0)) (varE 1)) (callE 1 F_thing_of (consA (varE 2) (nilA))))
noncomputable def F_Heap_change : List D → Store → R D := bodyF N_Heap_change.length m_Heap_change
noncomputable def m_Heap_numbers : MS := retS (allocE (newL sortL (newL listV (consA (fldE [7] "there" (varE 0)) (nilA)))))
noncomputable def F_Heap_numbers : List D → Store → R D := bodyF N_Heap_numbers.length m_Heap_numbers
noncomputable def m_Heap_put : MS := seqS (asgS (subT (fldE [7] "there" (varE 0)) (fldE [7] "count" (varE 0))) (callE 1 F_thing_of (consA (varE 1) (nilA)))) (seqS (fldS [7] "count" (varE 0) (binE addD (fldE [7] "count" (varE 0)) (conE (.int 1)))) (retS (binE subD (fldE [7] "count" (varE 0)) (conE (.int 1)))))
noncomputable def F_Heap_put : List D → Store → R D := bodyF N_Heap_put.length m_Heap_put
noncomputable def m_Box_holds : MS := retS (ifE (cmpM isD (fldE [3] "value" (varE 0)) (conE .non)) (allocE (lstN (nilA))) (allocE (lstN (consA (fldE [3] "value" (varE 0)) (nilA)))))
noncomputable def F_Box_holds : List D → Store → R D := bodyF N_Box_holds.length m_Box_holds
noncomputable def m_boxes_as_values : MS := retS (allocE (compN (srcV (varE 0)) (.one 1) (yesM) (tupE (consA (conE (.str (Str.ofString "thing"))) (consA (varE 1) (nilA))))))
noncomputable def F_boxes_as_values : List D → Store → R D := bodyF N_boxes_as_values.length m_boxes_as_values
noncomputable def m_Maker_holds : MS := retS (callE 1 F_boxes_as_values (consA (fldE [4, 5, 6] "taken" (varE 0)) (nilA)))
noncomputable def F_Maker_holds : List D → Store → R D := bodyF N_Maker_holds.length m_Maker_holds
noncomputable def m_Waiting_holds : MS := seqS (setS 1 (allocE (compN (srcV (fldE [6] "slots" (varE 0))) (.one 2) (cmpM isNotD (varE 2) (conE .non)) (varE 2)))) (retS (binE addD (binE addD (varE 1) (callE 1 F_boxes_as_values (consA (fldE [6] "boxes" (varE 0)) (nilA)))) (callE 1 F_boxes_as_values (consA (fldE [4, 5, 6] "taken" (varE 0)) (nilA)))))
noncomputable def F_Waiting_holds : List D → Store → R D := bodyF N_Waiting_holds.length m_Waiting_holds
noncomputable def b_Heap_reached_0 : MS := seqS (setS 4 (lmE popM (varE 3) nilA)) (ifS (andM (cmpM isNotD (varE 4) (conE .non)) (andM (cmpM eqD (binE ixD (varE 4) (conE (.int 0))) (conE (.str (Str.ofString "thing")))) (cmpM notInD (binE ixD (varE 4) (conE (.int 1))) (varE 2)))) (seqS (asgS (subT (varE 2) (binE ixD (varE 4) (conE (.int 1)))) (conE (.bl true))) (exprS (lmE extendM (varE 3) (consA (methE "holds" 1 [(3, F_Box_holds), (4, F_Maker_holds), (5, F_Maker_holds), (6, F_Waiting_holds)] (binE ixD (fldE [7] "there" (varE 0)) (binE ixD (varE 4) (conE (.int 1)))) nilA) (nilA))))) (nilS))
noncomputable def m_Heap_reached : MS := seqS (setS 2 (dict0)) (seqS (setS 3 (allocE (newL listV (consA (varE 1) (nilA))))) (seqS (whileS (cmpM neD (varE 3) (allocE (lstN (nilA)))) (b_Heap_reached_0) FU) (retS (allocE (newL sortL (newL listV (consA (varE 2) (nilA))))))))
noncomputable def F_Heap_reached : List D → Store → R D := bodyF N_Heap_reached.length m_Heap_reached
noncomputable def b_Heap_collect_0 : MS := exprS (dpopE (fldE [7] "there" (varE 0)) (varE 4))
noncomputable def m_Heap_collect : MS := seqS (setS 2 (newL pairsL (compN (srcV (methE "reached" 2 [(7, F_Heap_reached)] (varE 0) (consA (varE 1) (nilA)))) (.one 4) (yesM) (tupE (consA (varE 4) (consA (conE (.bl true)) (nilA))))))) (seqS (setS 3 (allocE (compN (srcV (methE "numbers" 1 [(7, F_Heap_numbers)] (varE 0) nilA)) (.one 4) (cmpM notInD (varE 4) (varE 2)) (varE 4)))) (seqS (forS (srcV (varE 3)) (nameT 4) (b_Heap_collect_0)) (retS (varE 3))))
noncomputable def F_Heap_collect : List D → Store → R D := bodyF N_Heap_collect.length m_Heap_collect
noncomputable def b__law_chain_0 : MS := exprS (methE "put" 2 [(7, F_Heap_put)] (varE 1) (consA (tupE (consA (conE (.str (Str.ofString "box"))) (consA (tupE (consA (conE (.str (Str.ofString "thing"))) (consA (binE subD (varE 3) (conE (.int 1))) (nilA)))) (nilA)))) (nilA)))
noncomputable def m__law_chain : MS := seqS (setS 1 (makeE 7 1 F_HeapXX_initXX nilA)) (seqS (setS 2 (binE addD (conE (.int 1000)) (binE modD (varE 0) (conE (.int 200))))) (seqS (exprS (methE "put" 2 [(7, F_Heap_put)] (varE 1) (consA (tupE (consA (conE (.str (Str.ofString "box"))) (consA (conE .non) (nilA)))) (nilA)))) (seqS (forS (srcR2 (consA (conE (.int 1)) (consA (varE 2) (nilA)))) (nameT 3) (b__law_chain_0)) (seqS (setS 4 (binE modD (binE fdivD (varE 0) (conE (.int 200))) (varE 2))) (seqS (ifS (cmpM neD (methE "collect" 2 [(7, F_Heap_collect)] (varE 1) (consA (allocE (lstN (consA (tupE (consA (conE (.str (Str.ofString "thing"))) (consA (varE 4) (nilA)))) (consA (tupE (consA (conE (.str (Str.ofString "thing"))) (consA (conE (.int 0)) (nilA)))) (nilA))))) (nilA))) (allocE (rngN2 (binE addD (varE 4) (conE (.int 1))) (varE 2)))) (retS (conE (.bl false))) (nilS)) (seqS (ifS (cmpM neD (methE "numbers" 1 [(7, F_Heap_numbers)] (varE 1) nilA) (allocE (rngN1 (binE addD (varE 4) (conE (.int 1)))))) (retS (conE (.bl false))) (nilS)) (retS (andV (ofV (toV (cmpM eqD (methE "collect" 2 [(7, F_Heap_collect)] (varE 1) (consA (allocE (lstN (nilA))) (nilA))) (allocE (rngN1 (binE addD (varE 4) (conE (.int 1)))))))) (andV (ofV (toV (cmpM eqD (methE "numbers" 1 [(7, F_Heap_numbers)] (varE 1) nilA) (allocE (lstN (nilA)))))) (toV (cmpM eqD (methE "put" 2 [(7, F_Heap_put)] (varE 1) (consA (tupE (consA (conE (.str (Str.ofString "box"))) (consA (conE .non) (nilA)))) (nilA))) (varE 2))))))))))))
noncomputable def F__law_chain : List D → Store → R D := bodyF N__law_chain.length m__law_chain
noncomputable def b__law_values_1 : MS := exprS (lmE appendM (varE 1) (consA (ifE (ofV (toV (isE "int" (varE 3)))) (tupE (consA (conE (.str (Str.ofString "thing"))) (consA (varE 3) (nilA)))) (varE 3)) (nilA)))
noncomputable def b__law_values_0 : MS := ifS (ofV (toV (isE "tuple" (varE 2)))) (forS (srcV (varE 2)) (nameT 3) (b__law_values_1)) (nilS)
noncomputable def m__law_values : MS := seqS (ifS (cmpM eqD (binE ixD (varE 0) (conE (.int 0))) (conE (.str (Str.ofString "box")))) (retS (allocE (lstN (consA (binE ixD (varE 0) (conE (.int 1))) (nilA))))) (nilS)) (seqS (setS 1 (allocE (lstN (nilA)))) (seqS (forS (srcV (sliceE (varE 0) (someO (conE (.int 2))) (noO))) (nameT 2) (b__law_values_0)) (retS (varE 1))))
noncomputable def F__law_values : List D → Store → R D := bodyF N__law_values.length m__law_values
noncomputable def b__law_reached_0 : MS := seqS (setS 4 (lmE popAtM (varE 3) (consA (conE (.int 0)) (nilA)))) (ifS (andM (cmpM isNotD (varE 4) (conE .non)) (andM (cmpM eqD (binE ixD (varE 4) (conE (.int 0))) (conE (.str (Str.ofString "thing")))) (cmpM notInD (binE ixD (varE 4) (conE (.int 1))) (varE 2)))) (seqS (exprS (lmE appendM (varE 2) (consA (binE ixD (varE 4) (conE (.int 1))) (nilA)))) (setS 3 (binE addD (varE 3) (callE 1 F__law_values (consA (binE ixD (varE 0) (binE ixD (varE 4) (conE (.int 1)))) (nilA)))))) (nilS))
noncomputable def m__law_reached : MS := seqS (setS 2 (allocE (lstN (nilA)))) (seqS (setS 3 (allocE (newL listV (consA (varE 1) (nilA))))) (seqS (whileS (cmpM neD (varE 3) (allocE (lstN (nilA)))) (b__law_reached_0) FU) (retS (allocE (ofL sortL (varE 2))))))
noncomputable def F__law_reached : List D → Store → R D := bodyF N__law_reached.length m__law_reached
noncomputable def b__law_collected_0 : MS := exprS (dpopE (varE 1) (varE 8))
noncomputable def m__law_collected : MS := seqS (setS 4 (allocE (newL listV (consA (varE 2) (nilA))))) (seqS (setS 5 (callE 2 F__law_reached (consA (varE 1) (consA (varE 2) (nilA))))) (seqS (setS 6 (allocE (compN (srcN (newL sortL (newL listV (consA (varE 1) (nilA))))) (.one 8) (cmpM notInD (varE 8) (varE 5)) (varE 8)))) (seqS (setS 7 (methE "collect" 2 [(7, F_Heap_collect)] (varE 0) (consA (varE 4) (nilA)))) (seqS (ifS (orM (notM (ofV (toV (isE "list" (varE 7))))) (orM (cmpM neD (varE 7) (varE 6)) (cmpM neD (varE 4) (varE 2)))) (retS (conE (.bl false))) (nilS)) (seqS (exprS (lmE appendM (varE 3) (consA (tupE (consA (varE 7) (consA (varE 6) (nilA)))) (nilA)))) (seqS (forS (srcV (varE 6)) (nameT 8) (b__law_collected_0)) (retS (toV (cmpM eqD (methE "collect" 2 [(7, F_Heap_collect)] (varE 0) (consA (varE 2) (nilA))) (allocE (lstN (nilA))))))))))))
noncomputable def F__law_collected : List D → Store → R D := bodyF N__law_collected.length m__law_collected
noncomputable def m__law_draw : MS := retS (ifE (cmpM gtD (newL lenV (consA (varE 0) (nilA))) (varE 1)) (binE ixD (varE 0) (varE 1)) (conE (.int 0)))
noncomputable def F__law_draw : List D → Store → R D := bodyF N__law_draw.length m__law_draw
noncomputable def m_Box_shape : MS := retS (tupE (consA (conE (.str (Str.ofString "box"))) (consA (fldE [3] "value" (varE 0)) (nilA))))
noncomputable def F_Box_shape : List D → Store → R D := bodyF N_Box_shape.length m_Box_shape
noncomputable def m_Looper_kind_word : MS := retS (conE (.str (Str.ofString "loop")))
noncomputable def F_Looper_kind_word : List D → Store → R D := bodyF N_Looper_kind_word.length m_Looper_kind_word
noncomputable def m_Maker_kind_word : MS := retS (conE (.str (Str.ofString "fun")))
noncomputable def F_Maker_kind_word : List D → Store → R D := bodyF N_Maker_kind_word.length m_Maker_kind_word
noncomputable def m_Waiting_kind_word : MS := retS (conE (.str (Str.ofString "waiting")))
noncomputable def F_Waiting_kind_word : List D → Store → R D := bodyF N_Waiting_kind_word.length m_Waiting_kind_word
noncomputable def m_Maker_shape : MS := retS (tupE (consA (methE "kind_word" 1 [(4, F_Maker_kind_word), (5, F_Looper_kind_word), (6, F_Waiting_kind_word)] (varE 0) nilA) (consA (fldE [4, 5, 6] "own" (varE 0)) (consA (fldE [4, 5, 6] "taken" (varE 0)) (nilA)))))
noncomputable def F_Maker_shape : List D → Store → R D := bodyF N_Maker_shape.length m_Maker_shape
noncomputable def m_Waiting_shape : MS := retS (tupE (consA (methE "kind_word" 1 [(4, F_Maker_kind_word), (5, F_Looper_kind_word), (6, F_Waiting_kind_word)] (varE 0) nilA) (consA (fldE [4, 5, 6] "own" (varE 0)) (consA (fldE [6] "at" (varE 0)) (consA (fldE [6] "slots" (varE 0)) (consA (fldE [6] "boxes" (varE 0)) (consA (fldE [4, 5, 6] "taken" (varE 0)) (nilA))))))))
noncomputable def F_Waiting_shape : List D → Store → R D := bodyF N_Waiting_shape.length m_Waiting_shape
noncomputable def m_Heap_thing : MS := seqS (exprS (methE "need" 2 [(7, F_Heap_need)] (varE 0) (consA (varE 1) (nilA)))) (retS (methE "shape" 1 [(3, F_Box_shape), (4, F_Maker_shape), (5, F_Maker_shape), (6, F_Waiting_shape)] (binE ixD (fldE [7] "there" (varE 0)) (varE 1)) nilA))
noncomputable def F_Heap_thing : List D → Store → R D := bodyF N_Heap_thing.length m_Heap_thing
noncomputable def m__law_is_gone : MS := seqS (catchS hit_LoomError 2 (exprS (methE "thing" 2 [(7, F_Heap_thing)] (varE 0) (consA (varE 1) (nilA)))) (fun a z => retS (toV (isX (kisX kis z (.own 1)) a (varE 2))))) (retS (conE (.bl false)))
noncomputable def F__law_is_gone : List D → Store → R D := bodyF N__law_is_gone.length m__law_is_gone
noncomputable def m__law_right : MS := seqS (setS 3 (allocE (newL sortL (newL listV (consA (varE 1) (nilA)))))) (seqS (ifS (orM (cmpM neD (methE "numbers" 1 [(7, F_Heap_numbers)] (varE 0) nilA) (varE 3)) (neN (compN (srcV (varE 3)) (.one 4) (yesM) (methE "thing" 2 [(7, F_Heap_thing)] (varE 0) (consA (varE 4) (nilA)))) (compN (srcV (varE 3)) (.one 4) (yesM) (binE ixD (varE 1) (varE 4))))) (retS (conE (.bl false))) (nilS)) (retS (newL allL (compN (srcR1 (consA (binE addD (varE 2) (conE (.int 1))) (nilA))) (.one 4) (cmpM notInD (varE 4) (varE 1)) (callE 2 F__law_is_gone (consA (varE 0) (consA (varE 4) (nilA))))))))
noncomputable def F__law_right : List D → Store → R D := bodyF N__law_right.length m__law_right
noncomputable def m__law_spread : MS := retS (binE modD (binE mulD (binE addD (varE 0) (conE (.int 3))) (binE addD (conE (.int 48271)) (binE mulD (binE mulD (conE (.int 2)) (varE 1)) (varE 1)))) (conE (.int 2147483647)))
noncomputable def F__law_spread : List D → Store → R D := bodyF N__law_spread.length m__law_spread
noncomputable def m__law_boxes : MS := seqS (ifS (cmpM eqD (varE 1) (allocE (lstN (nilA)))) (retS (tupE (nilA))) (nilS)) (retS (newL tupL (compN (srcR1 (consA (binE modD (varE 0) (conE (.int 3))) (nilA))) (.one 2) (yesM) (binE ixD (varE 1) (binE modD (binE fdivD (binE fdivD (varE 0) (conE (.int 7))) (binE addD (conE (.int 1)) (binE mulD (conE (.int 5)) (varE 2)))) (newL lenV (consA (varE 1) (nilA))))))))
noncomputable def F__law_boxes : List D → Store → R D := bodyF N__law_boxes.length m__law_boxes
noncomputable def m__law_value : MS := seqS (ifS (andM (cmpM ltD (binE modD (varE 0) (conE (.int 5))) (conE (.int 3))) (cmpM neD (varE 1) (allocE (lstN (nilA))))) (retS (tupE (consA (conE (.str (Str.ofString "thing"))) (consA (binE ixD (varE 1) (binE modD (binE fdivD (varE 0) (conE (.int 5))) (newL lenV (consA (varE 1) (nilA))))) (nilA))))) (nilS)) (seqS (ifS (cmpM eqD (binE modD (varE 0) (conE (.int 5))) (conE (.int 3))) (retS (conE .non)) (nilS)) (retS (tupE (consA (conE (.str (Str.ofString "number"))) (consA (binE modD (binE fdivD (varE 0) (conE (.int 5))) (conE (.int 40))) (nilA))))))
noncomputable def F__law_value : List D → Store → R D := bodyF N__law_value.length m__law_value
noncomputable def m__law_thing : MS := seqS (setS 2 (callE 2 F__law_spread (consA (varE 0) (consA (conE (.int 1)) (nilA))))) (seqS (ifS (cmpM ltD (binE modD (varE 0) (conE (.int 6))) (conE (.int 3))) (retS (tupE (consA (conE (.str (Str.ofString "box"))) (consA (callE 2 F__law_value (consA (varE 2) (consA (varE 1) (nilA)))) (nilA))))) (nilS)) (seqS (ifS (cmpM eqD (binE modD (varE 0) (conE (.int 6))) (conE (.int 3))) (retS (tupE (consA (conE (.str (Str.ofString "fun"))) (consA (binE modD (varE 2) (conE (.int 300))) (consA (callE 2 F__law_boxes (consA (binE fdivD (varE 2) (conE (.int 300))) (consA (varE 1) (nilA)))) (nilA)))))) (nilS)) (seqS (ifS (andM (cmpM eqD (binE modD (varE 0) (conE (.int 6))) (conE (.int 4))) (cmpM eqD (binE modD (varE 2) (conE (.int 4))) (conE (.int 3)))) (seqS (setS 3 (binE ixD (allocE (lstN (consA (conE (.str (Str.ofString "open"))) (consA (conE (.str (Str.ofString "open"))) (consA (conE (.str (Str.ofString "ended"))) (nilA)))))) (binE modD (binE fdivD (varE 2) (conE (.int 4))) (conE (.int 3))))) (retS (tupE (consA (conE (.str (Str.ofString "waiting"))) (consA (binE modD (binE fdivD (varE 2) (conE (.int 5))) (conE (.int 300))) (consA (varE 3) (consA (tupE (nilA)) (consA (tupE (nilA)) (consA (callE 2 F__law_boxes (consA (binE mulD (binE fdivD (varE 2) (conE (.int 12))) (newL intV (consA (toV (cmpM eqD (varE 3) (conE (.str (Str.ofString "open"))))) (nilA)))) (consA (varE 1) (nilA)))) (nilA)))))))))) (nilS)) (seqS (ifS (cmpM eqD (binE modD (varE 0) (conE (.int 6))) (conE (.int 4))) (seqS (setS 4 (newL tupL (compN (srcR1 (consA (binE modD (varE 2) (conE (.int 4))) (nilA))) (.one 5) (yesM) (callE 2 F__law_value (consA (callE 2 F__law_spread (consA (varE 2) (consA (varE 5) (nilA)))) (consA (varE 1) (nilA))))))) (retS (tupE (consA (conE (.str (Str.ofString "waiting"))) (consA (binE modD (binE fdivD (varE 2) (conE (.int 5))) (conE (.int 300))) (consA (conE (.int 7)) (consA (varE 4) (consA (callE 2 F__law_boxes (consA (binE fdivD (varE 2) (conE (.int 11))) (consA (varE 1) (nilA)))) (consA (callE 2 F__law_boxes (consA (binE fdivD (varE 2) (conE (.int 13))) (consA (varE 1) (nilA)))) (nilA)))))))))) (nilS)) (retS (tupE (consA (conE (.str (Str.ofString "loop"))) (consA (binE modD (varE 2) (conE (.int 300))) (consA (callE 2 F__law_boxes (consA (binE fdivD (varE 2) (conE (.int 9))) (consA (varE 1) (nilA)))) (nilA))))))))))
noncomputable def F__law_thing : List D → Store → R D := bodyF N__law_thing.length m__law_thing
noncomputable def b_law_1 : MS := ifS (notM (ofV (callE 3 F__law_right (consA (binE ixD (varE 1) (varE 9)) (consA (binE ixD (varE 2) (varE 9)) (consA (binE ixD (varE 3) (varE 9)) (nilA))))))) (retS (conE (.bl false))) (nilS)
noncomputable def b_law_0 : MS := seqS (setS 5 (callE 2 F__law_spread (consA (varE 5) (consA (conE (.int 0)) (nilA))))) (seqS (setS 6 (binE modD (varE 5) (conE (.int 2)))) (seqS (setS 7 (allocE (newL sortL (newL listV (consA (binE ixD (varE 2) (varE 6)) (nilA)))))) (seqS (setS 8 (binE modD (binE fdivD (varE 5) (conE (.int 2))) (conE (.int 8)))) (seqS (ifS (orM (cmpM ltD (varE 8) (conE (.int 4))) (cmpM eqD (varE 7) (allocE (lstN (nilA))))) (seqS (setS 10 (callE 2 F__law_thing (consA (binE fdivD (varE 5) (conE (.int 16))) (consA (varE 7) (nilA))))) (seqS (ifS (cmpM neD (methE "put" 2 [(7, F_Heap_put)] (binE ixD (varE 1) (varE 6)) (consA (varE 10) (nilA))) (binE ixD (varE 3) (varE 6))) (retS (conE (.bl false))) (nilS)) (seqS (asgS (subT (binE ixD (varE 2) (varE 6)) (binE ixD (varE 3) (varE 6))) (varE 10)) (asgS (subT (varE 3) (varE 6)) (binE addD (binE ixD (varE 3) (varE 6)) (conE (.int 1))))))) (ifS (cmpM ltD (varE 8) (conE (.int 6))) (seqS (setS 11 (binE ixD (varE 7) (binE modD (binE fdivD (varE 5) (conE (.int 16))) (newL lenV (consA (varE 7) (nilA)))))) (seqS (asgS (subT (binE ixD (varE 2) (varE 6)) (varE 11)) (callE 2 F__law_thing (consA (binE fdivD (varE 5) (conE (.int 1024))) (consA (varE 7) (nilA))))) (exprS (methE "change" 3 [(7, F_Heap_change)] (binE ixD (varE 1) (varE 6)) (consA (varE 11) (consA (binE ixD (binE ixD (varE 2) (varE 6)) (varE 11)) (nilA))))))) (seqS (setS 12 (allocE (compN (srcR1 (consA (binE modD (binE fdivD (varE 5) (conE (.int 16))) (conE (.int 4))) (nilA))) (.one 9) (yesM) (callE 2 F__law_value (consA (callE 2 F__law_spread (consA (varE 5) (consA (binE addD (conE (.int 3)) (varE 9)) (nilA)))) (consA (varE 7) (nilA))))))) (seqS (exprS (lmE appendM (varE 4) (consA (tupE (consA (methE "numbers" 1 [(7, F_Heap_numbers)] (binE ixD (varE 1) (varE 6)) nilA) (consA (varE 7) (nilA)))) (nilA)))) (ifS (notM (ofV (callE 4 F__law_collected (consA (binE ixD (varE 1) (varE 6)) (consA (binE ixD (varE 2) (varE 6)) (consA (varE 12) (consA (varE 4) (nilA)))))))) (retS (conE (.bl false))) (nilS)))))) (forS (srcV (binE ixD (allocE (lstN (consA (allocE (lstN (consA (conE (.int 0)) (consA (conE (.int 1)) (nilA))))) (consA (allocE (lstN (consA (conE (.int 1)) (consA (conE (.int 0)) (nilA))))) (nilA))))) (binE modD (binE fdivD (varE 5) (conE (.int 64))) (conE (.int 2))))) (nameT 9) (b_law_1))))))
noncomputable def m_law : MS := seqS (ifS (cmpM eqD (binE modD (binE fdivD (callE 2 F__law_draw (consA (varE 0) (consA (conE (.int 0)) (nilA)))) (conE (.int 40))) (conE (.int 16))) (conE (.int 5))) (retS (callE 1 F__law_chain (consA (callE 2 F__law_spread (consA (callE 2 F__law_draw (consA (varE 0) (consA (conE (.int 19)) (nilA)))) (consA (conE (.int 3)) (nilA)))) (nilA)))) (nilS)) (seqS (setS 1 (allocE (lstN (consA (makeE 7 1 F_HeapXX_initXX nilA) (consA (makeE 7 1 F_HeapXX_initXX nilA) (nilA)))))) (seqS (setS 2 (allocE (lstN (consA (dict0) (consA (dict0) (nilA)))))) (seqS (setS 3 (allocE (lstN (consA (conE (.int 0)) (consA (conE (.int 0)) (nilA)))))) (seqS (setS 4 (allocE (lstN (nilA)))) (seqS (forS (srcV (sliceE (varE 0) (someO (conE (.int 1))) (someO (conE (.int 19))))) (nameT 5) (b_law_0)) (retS (newL allL (compN (srcV (varE 4)) (.many [14, 13]) (yesM) (toV (cmpM eqD (varE 14) (varE 13)))))))))))
noncomputable def F_law : List D → Store → R D := bodyF N_law.length m_law
structure Txt (K : PySem.W.Frag) (mg : Str → Option Value) (cA : Nat → Addr) : Prop where
  e_NoThing : ExcK K mg "NoThing" (cA 1)
  n_LoomError : mg "LoomError" = some (.ref (cA 0))
  n_NoThing : mg "NoThing" = some (.ref (cA 1))
  h_LoomError : ∀ k b, hit_LoomError k = some b → PySem.W.exmOne K (.ref (cA k)) (.ref (cA 0)) = some b
  isf : IsFacts K cA kis
  c_Heap : Cls K (cA 7)
  c_Box : Cls K (cA 3)
  c_Waiting : Cls K (cA 6)
  c_Looper : Cls K (cA 5)
  c_Maker : Cls K (cA 4)
  na_Heap_there : NoAttr K (cA 7) "there"
  na_Heap_count : NoAttr K (cA 7) "count"
  na_Box_value : NoAttr K (cA 3) "value"
  na_Waiting_own : NoAttr K (cA 6) "own"
  na_Looper_own : NoAttr K (cA 5) "own"
  na_Maker_own : NoAttr K (cA 4) "own"
  na_Waiting_taken : NoAttr K (cA 6) "taken"
  na_Looper_taken : NoAttr K (cA 5) "taken"
  na_Maker_taken : NoAttr K (cA 4) "taken"
  na_Waiting_at : NoAttr K (cA 6) "at"
  na_Waiting_slots : NoAttr K (cA 6) "slots"
  na_Waiting_boxes : NoAttr K (cA 6) "boxes"
  b_all : mg "all" = none
  b_bool : mg "bool" = none
  b_dict : mg "dict" = none
  b_int : mg "int" = none
  b_isinstance : mg "isinstance" = none
  b_len : mg "len" = none
  b_list : mg "list" = none
  b_range : mg "range" = none
  b_sorted : mg "sorted" = none
  b_tuple : mg "tuple" = none
section
variable {P : Program} {w : World} {K : PySem.W.Frag} {mg : Str → Option Value} {base : Heap} {cA : Nat → Addr}
theorem ok_HeapXX_initXX {f : Addr} {fd : FuncData} (F : Fun K "__init__" "Heap.__init__" s_HeapXX_initXX f fd) (T : Txt K mg cA)  : FnOk P w K mg base (L2.CX P w) 1 f fd ["self"] (spM K cA F_HeapXX_initXX 1) :=
  defM F sc_HeapXX_initXX fun cdv A outer s H E hr => by
    unfold m_HeapXX_initXX
    exact (scons (sfld (ClsL.all (cs := [7]) ⟨⟨T.c_Heap, T.na_Heap_there⟩, trivial⟩) (mvar (i := 0) rfl (.inl rfl)) mdict0) (sone (sfld (ClsL.all (cs := [7]) ⟨⟨T.c_Heap, T.na_Heap_count⟩, trivial⟩) (mvar (i := 0) rfl (.inl rfl)) mint)))
theorem ok_Heap_need {f : Addr} {fd : FuncData} (F : Fun K "need" "Heap.need" s_Heap_need f fd) (T : Txt K mg cA)  : FnOk P w K mg base (L2.CX P w) 1 f fd ["self", "k"] (spM K cA F_Heap_need 2) :=
  defM F sc_Heap_need fun cdv A outer s H E hr => by
    unfold m_Heap_need
    exact (sone (sif (PW.pt (morT (mnotT (mval (misi ok_int (mvar (i := 1) rfl (.inl rfl)) rfl T.b_isinstance rfl T.b_int bt_int bt_isinstance))) (morT (mval (misi ok_bool (mvar (i := 1) rfl (.inl rfl)) rfl T.b_isinstance rfl T.b_bool bt_bool bt_isinstance)) (mor1 (mcmpT (op_notInM (hu_of hr)) (mvar (i := 1) rfl (.inl rfl)) (mfld (ClsL.all (cs := [7]) ⟨⟨T.c_Heap, T.na_Heap_there⟩, trivial⟩) (mvar (i := 0) rfl (.inl rfl))) rfl))))) (sone (sraise (k := 1) T.e_NoThing (takes_of rfl rfl rfl rfl) rfl rfl)) snil))
theorem ok_BoxXX_initXX {f : Addr} {fd : FuncData} (F : Fun K "__init__" "Box.__init__" s_BoxXX_initXX f fd) (T : Txt K mg cA)  : FnOk P w K mg base (L2.CX P w) 1 f fd ["self", "value"] (spM K cA F_BoxXX_initXX 2) :=
  defM F sc_BoxXX_initXX fun cdv A outer s H E hr => by
    unfold m_BoxXX_initXX
    exact (sone (sfld (ClsL.all (cs := [3]) ⟨⟨T.c_Box, T.na_Box_value⟩, trivial⟩) (mvar (i := 0) rfl (.inl rfl)) (mvar (i := 1) rfl (.inl rfl))))
theorem ok_MakerXX_initXX {f : Addr} {fd : FuncData} (F : Fun K "__init__" "Maker.__init__" s_MakerXX_initXX f fd) (T : Txt K mg cA)  : FnOk P w K mg base (L2.CX P w) 1 f fd ["self", "own", "taken"] (spM K cA F_MakerXX_initXX 3) :=
  defM F sc_MakerXX_initXX fun cdv A outer s H E hr => by
    unfold m_MakerXX_initXX
    exact (scons (sfld (ClsL.all (cs := [4, 5, 6]) ⟨⟨T.c_Maker, T.na_Maker_own⟩, ⟨⟨T.c_Looper, T.na_Looper_own⟩, ⟨⟨T.c_Waiting, T.na_Waiting_own⟩, trivial⟩⟩⟩) (mvar (i := 0) rfl (.inl rfl)) (mvar (i := 1) rfl (.inl rfl))) (sone (sfld (ClsL.all (cs := [4, 5, 6]) ⟨⟨T.c_Maker, T.na_Maker_taken⟩, ⟨⟨T.c_Looper, T.na_Looper_taken⟩, ⟨⟨T.c_Waiting, T.na_Waiting_taken⟩, trivial⟩⟩⟩) (mvar (i := 0) rfl (.inl rfl)) (mvar (i := 2) rfl (.inl rfl)))))
theorem ok_WaitingXX_initXX {f : Addr} {fd : FuncData} (F : Fun K "__init__" "Waiting.__init__" s_WaitingXX_initXX f fd) (T : Txt K mg cA)  : FnOk P w K mg base (L2.CX P w) 1 f fd ["self", "own", "at", "slots", "boxes", "taken"] (spM K cA F_WaitingXX_initXX 6) :=
  defM F sc_WaitingXX_initXX fun cdv A outer s H E hr => by
    unfold m_WaitingXX_initXX
    exact (scons (sfld (ClsL.all (cs := [4, 5, 6]) ⟨⟨T.c_Maker, T.na_Maker_own⟩, ⟨⟨T.c_Looper, T.na_Looper_own⟩, ⟨⟨T.c_Waiting, T.na_Waiting_own⟩, trivial⟩⟩⟩) (mvar (i := 0) rfl (.inl rfl)) (mvar (i := 1) rfl (.inl rfl))) (scons (sfld (ClsL.all (cs := [6]) ⟨⟨T.c_Waiting, T.na_Waiting_at⟩, trivial⟩) (mvar (i := 0) rfl (.inl rfl)) (mvar (i := 2) rfl (.inl rfl))) (scons (sfld (ClsL.all (cs := [6]) ⟨⟨T.c_Waiting, T.na_Waiting_slots⟩, trivial⟩) (mvar (i := 0) rfl (.inl rfl)) (mvar (i := 3) rfl (.inl rfl))) (scons (sfld (ClsL.all (cs := [6]) ⟨⟨T.c_Waiting, T.na_Waiting_boxes⟩, trivial⟩) (mvar (i := 0) rfl (.inl rfl)) (mvar (i := 4) rfl (.inl rfl))) (sone (sfld (ClsL.all (cs := [4, 5, 6]) ⟨⟨T.c_Maker, T.na_Maker_taken⟩, ⟨⟨T.c_Looper, T.na_Looper_taken⟩, ⟨⟨T.c_Waiting, T.na_Waiting_taken⟩, trivial⟩⟩⟩) (mvar (i := 0) rfl (.inl rfl)) (mvar (i := 5) rfl (.inl rfl))))))))
theorem ok_thing_of {f : Addr} {fd : FuncData} (F : Fun K "thing_of" "thing_of" s_thing_of f fd) (T : Txt K mg cA) (K_Box : MkM P w K mg base cA 1 "Box" 3 2 F_BoxXX_initXX) (K_Looper : MkM P w K mg base cA 1 "Looper" 5 3 F_MakerXX_initXX) (K_Maker : MkM P w K mg base cA 1 "Maker" 4 3 F_MakerXX_initXX) (K_Waiting : MkM P w K mg base cA 1 "Waiting" 6 6 F_WaitingXX_initXX) : FnOk P w K mg base (L2.CX P w) 3 f fd ["told"] (spM K cA F_thing_of 1) :=
  defM F sc_thing_of fun cdv A outer s H E hr => by
    unfold m_thing_of
    exact (scons (sif (mcmpT (op_eqM hr.units) (mix (hu_of hr) (mvar (i := 0) rfl (.inl rfl)) mint) mstr (nomark _)) (sone (sret (mmake K_Box (by decide) hr pass_def rfl (acons (mix (hu_of hr) (mvar (i := 0) rfl (.inl rfl)) mint) anil)))) snil) (scons (sif (mcmpT (op_eqM hr.units) (mix (hu_of hr) (mvar (i := 0) rfl (.inl rfl)) mint) mstr (nomark _)) (sone (sret (mmake K_Maker (by decide) hr pass_def rfl (acons (mix (hu_of hr) (mvar (i := 0) rfl (.inl rfl)) mint) (acons (mix (hu_of hr) (mvar (i := 0) rfl (.inl rfl)) mint) anil))))) snil) (scons (sif (mcmpT (op_eqM hr.units) (mix (hu_of hr) (mvar (i := 0) rfl (.inl rfl)) mint) mstr (nomark _)) (sone (sret (mmake K_Looper (by decide) hr pass_def rfl (acons (mix (hu_of hr) (mvar (i := 0) rfl (.inl rfl)) mint) (acons (mix (hu_of hr) (mvar (i := 0) rfl (.inl rfl)) mint) anil))))) snil) (sone (sret (mmake K_Waiting (by decide) hr pass_def rfl (acons (mix (hu_of hr) (mvar (i := 0) rfl (.inl rfl)) mint) (acons (mix (hu_of hr) (mvar (i := 0) rfl (.inl rfl)) mint) (acons (mix (hu_of hr) (mvar (i := 0) rfl (.inl rfl)) mint) (acons (mix (hu_of hr) (mvar (i := 0) rfl (.inl rfl)) mint) (acons (mix (hu_of hr) (mvar (i := 0) rfl (.inl rfl)) mint) anil)))))))))))
theorem ok_Heap_change {f : Addr} {fd : FuncData} (F : Fun K "change" "Heap.change" s_Heap_change f fd) (T : Txt K mg cA) (C_thing_of : FnM P w K mg base cA 3 "thing_of" 1 F_thing_of) (M_Heap_need : MtM P w K mg base cA 1 "need" 7 2 F_Heap_need) : FnOk P w K mg base (L2.CX P w) 4 f fd ["self", "k", "thing"] (spM K cA F_Heap_change 3) :=
  defM F sc_Heap_change fun cdv A outer s H E hr => by
    unfold m_Heap_change
    exact (scons (sexpr (mmeth (tbl := [(7, F_Heap_need)]) ⟨⟨_, by decide, M_Heap_need⟩, trivial⟩ hr pass_def (mvar (i := 0) rfl (.inl rfl)) (acons (mvar (i := 1) rfl (.inl rfl)) anil))) (sone (sasg (mcall C_thing_of (by decide) hr pass_def rfl (acons (mvar (i := 2) rfl (.inl rfl)) anil)) (gsub (hu_of hr) (mfld (ClsL.all (cs := [7]) ⟨⟨T.c_Heap, T.na_Heap_there⟩, trivial⟩) (mvar (i := 0) rfl (.inl rfl))) (mvar (i := 1) rfl (.inl rfl))))))
theorem ok_Heap_numbers {f : Addr} {fd : FuncData} (F : Fun K "numbers" "Heap.numbers" s_Heap_numbers f fd) (T : Txt K mg cA)  : FnOk P w K mg base (L2.CX P w) 1 f fd ["self"] (spM K cA F_Heap_numbers 1) :=
  defM F sc_Heap_numbers fun cdv A outer s H E hr => by
    unfold m_Heap_numbers
    exact (sone (sret (malloc (mcallN st_New c_sort rfl T.b_sorted bt_sorted (mtyV st_New (c_list rfl) rfl T.b_list bt_list (acons (mfld (ClsL.all (cs := [7]) ⟨⟨T.c_Heap, T.na_Heap_there⟩, trivial⟩) (mvar (i := 0) rfl (.inl rfl))) anil))))))
theorem ok_Heap_put {f : Addr} {fd : FuncData} (F : Fun K "put" "Heap.put" s_Heap_put f fd) (T : Txt K mg cA) (C_thing_of : FnM P w K mg base cA 3 "thing_of" 1 F_thing_of) : FnOk P w K mg base (L2.CX P w) 4 f fd ["self", "thing"] (spM K cA F_Heap_put 2) :=
  defM F sc_Heap_put fun cdv A outer s H E hr => by
    unfold m_Heap_put
    exact (scons (sasg (mcall C_thing_of (by decide) hr pass_def rfl (acons (mvar (i := 1) rfl (.inl rfl)) anil)) (gsub (hu_of hr) (mfld (ClsL.all (cs := [7]) ⟨⟨T.c_Heap, T.na_Heap_there⟩, trivial⟩) (mvar (i := 0) rfl (.inl rfl))) (mfld (ClsL.all (cs := [7]) ⟨⟨T.c_Heap, T.na_Heap_count⟩, trivial⟩) (mvar (i := 0) rfl (.inl rfl))))) (scons (sfld (ClsL.all (cs := [7]) ⟨⟨T.c_Heap, T.na_Heap_count⟩, trivial⟩) (mvar (i := 0) rfl (.inl rfl)) (mbin op_addM (mfld (ClsL.all (cs := [7]) ⟨⟨T.c_Heap, T.na_Heap_count⟩, trivial⟩) (mvar (i := 0) rfl (.inl rfl))) mint)) (sone (sret (mbin op_subM (mfld (ClsL.all (cs := [7]) ⟨⟨T.c_Heap, T.na_Heap_count⟩, trivial⟩) (mvar (i := 0) rfl (.inl rfl))) mint)))))
theorem ok_Box_holds {f : Addr} {fd : FuncData} (F : Fun K "holds" "Box.holds" s_Box_holds f fd) (T : Txt K mg cA)  : FnOk P w K mg base (L2.CX P w) 1 f fd ["self"] (spM K cA F_Box_holds 1) :=
  defM F sc_Box_holds fun cdv A outer s H E hr => by
    unfold m_Box_holds
    exact (sone (sret (mif (mcmpT op_isM (mfld (ClsL.all (cs := [3]) ⟨⟨T.c_Box, T.na_Box_value⟩, trivial⟩) (mvar (i := 0) rfl (.inl rfl))) mnon (nomark _)) (malloc (mlst anil)) (malloc (mlst (acons (mfld (ClsL.all (cs := [3]) ⟨⟨T.c_Box, T.na_Box_value⟩, trivial⟩) (mvar (i := 0) rfl (.inl rfl))) anil))))))
theorem ok_boxes_as_values {f : Addr} {fd : FuncData} (F : Fun K "boxes_as_values" "boxes_as_values" s_boxes_as_values f fd) (T : Txt K mg cA)  : FnOk P w K mg base (L2.CX P w) 1 f fd ["numbers"] (spM K cA F_boxes_as_values 1) :=
  defM F sc_boxes_as_values fun cdv A outer s H E hr => by
    unfold m_boxes_as_values
    exact (sone (sret (malloc (mcomp (t := .one 1) (own := [("number", 1)]) rfl rfl sc_boxes_as_values.nd (isrc (mvar (i := 0) rfl (.inl rfl))) (blkOk_by (N := N_boxes_as_values) (sc := defScope s_boxes_as_values) (by decide +kernel)) (fun _ _ _ _ _ => pg_name (i := 1) sc_boxes_as_values.nd rfl (Or.inl rfl)) (fun _ _ _ _ _ => tyes) (fun _ _ _ _ _ => (mtup (acons mstr (acons (mvar (i := 1) rfl (.inl rfl)) anil))))))))
theorem ok_Maker_holds {f : Addr} {fd : FuncData} (F : Fun K "holds" "Maker.holds" s_Maker_holds f fd) (T : Txt K mg cA) (C_boxes_as_values : FnM P w K mg base cA 1 "boxes_as_values" 1 F_boxes_as_values) : FnOk P w K mg base (L2.CX P w) 2 f fd ["self"] (spM K cA F_Maker_holds 1) :=
  defM F sc_Maker_holds fun cdv A outer s H E hr => by
    unfold m_Maker_holds
    exact (sone (sret (mcall C_boxes_as_values (by decide) hr pass_def rfl (acons (mfld (ClsL.all (cs := [4, 5, 6]) ⟨⟨T.c_Maker, T.na_Maker_taken⟩, ⟨⟨T.c_Looper, T.na_Looper_taken⟩, ⟨⟨T.c_Waiting, T.na_Waiting_taken⟩, trivial⟩⟩⟩) (mvar (i := 0) rfl (.inl rfl))) anil))))
theorem ok_Waiting_holds {f : Addr} {fd : FuncData} (F : Fun K "holds" "Waiting.holds" s_Waiting_holds f fd) (T : Txt K mg cA) (C_boxes_as_values : FnM P w K mg base cA 1 "boxes_as_values" 1 F_boxes_as_values) : FnOk P w K mg base (L2.CX P w) 2 f fd ["self"] (spM K cA F_Waiting_holds 1) :=
  defM F sc_Waiting_holds fun cdv A outer s H E hr => by
    unfold m_Waiting_holds
    exact (scons (ssetC (i := 1) (t := .one 2) (own := [("value", 2)]) rfl rfl sc_Waiting_holds.nd rfl rfl (sw_true rfl rfl rfl (by decide +kernel)) (isrc (mfld (ClsL.all (cs := [6]) ⟨⟨T.c_Waiting, T.na_Waiting_slots⟩, trivial⟩) (mvar (i := 0) rfl (.inl rfl)))) (blkOk_by (N := N_Waiting_holds) (sc := defScope s_Waiting_holds) (by decide +kernel)) (fun _ _ _ _ _ => pg_name (i := 2) sc_Waiting_holds.nd rfl (Or.inl rfl)) (fun _ _ _ _ _ => (tone (mcmpT op_isNotM (mvar (i := 2) rfl (.inl rfl)) mnon (nomark _)))) (fun _ _ _ _ _ => (mvar (i := 2) rfl (.inl rfl)))) (sone (sret (mbin op_addM (mbin op_addM (mvar (i := 1) rfl (.inl rfl)) (mcall C_boxes_as_values (by decide) hr pass_def rfl (acons (mfld (ClsL.all (cs := [6]) ⟨⟨T.c_Waiting, T.na_Waiting_boxes⟩, trivial⟩) (mvar (i := 0) rfl (.inl rfl))) anil))) (mcall C_boxes_as_values (by decide) hr pass_def rfl (acons (mfld (ClsL.all (cs := [4, 5, 6]) ⟨⟨T.c_Maker, T.na_Maker_taken⟩, ⟨⟨T.c_Looper, T.na_Looper_taken⟩, ⟨⟨T.c_Waiting, T.na_Waiting_taken⟩, trivial⟩⟩⟩) (mvar (i := 0) rfl (.inl rfl))) anil))))))
theorem ok_Heap_reached {f : Addr} {fd : FuncData} (F : Fun K "reached" "Heap.reached" s_Heap_reached f fd) (T : Txt K mg cA) (M_Box_holds : MtM P w K mg base cA 1 "holds" 3 1 F_Box_holds) (M_Looper_holds : MtM P w K mg base cA 2 "holds" 5 1 F_Maker_holds) (M_Maker_holds : MtM P w K mg base cA 2 "holds" 4 1 F_Maker_holds) (M_Waiting_holds : MtM P w K mg base cA 2 "holds" 6 1 F_Waiting_holds) : FnOk P w K mg base (L2.CX P w) 3 f fd ["self", "values"] (spM K cA F_Heap_reached 2) :=
  defM F sc_Heap_reached fun cdv A outer s H E hr => by
    unfold m_Heap_reached
    exact (scons (sset (i := 2) sc_Heap_reached.nd rfl (.inl rfl) mdict0) (scons (sset (i := 3) sc_Heap_reached.nd rfl (.inl rfl) (malloc (mtyV st_New (c_list rfl) rfl T.b_list bt_list (acons (mvar (i := 1) rfl (.inl rfl)) anil)))) (scons (swhile FU own_def (mcmpT (op_neM hr.units) (mvar (i := 3) rfl (.inl rfl)) (malloc (mlst anil)) (nomark _)) (scons (sset (i := 4) sc_Heap_reached.nd rfl (.inl rfl) (mlm0 PySem.F.slot_list_pop PySem.F.type_list_pop mt_popM (mvar (i := 3) rfl (.inl rfl)))) (sone (sif (PW.pt (mandT (mcmpT op_isNotM (mvar (i := 4) rfl (.inl rfl)) mnon (nomark _)) (mandT (mcmpT (op_eqM hr.units) (mix (hu_of hr) (mvar (i := 4) rfl (.inl rfl)) mint) mstr (nomark _)) (mand1 (mcmpT (op_notInM (hu_of hr)) (mix (hu_of hr) (mvar (i := 4) rfl (.inl rfl)) mint) (mvar (i := 2) rfl (.inl rfl)) rfl))))) (scons (sasg mbl (gsub (hu_of hr) (mvar (i := 2) rfl (.inl rfl)) (mix (hu_of hr) (mvar (i := 4) rfl (.inl rfl)) mint))) (sone (sexpr (mlm PySem.F.slot_list_extend PySem.F.type_list_extend mt_extendM (mvar (i := 3) rfl (.inl rfl)) (acons (mmeth0 (tbl := [(3, F_Box_holds), (4, F_Maker_holds), (5, F_Maker_holds), (6, F_Waiting_holds)]) ⟨⟨_, by decide, M_Box_holds⟩, ⟨⟨_, by decide, M_Maker_holds⟩, ⟨⟨_, by decide, M_Looper_holds⟩, ⟨⟨_, by decide, M_Waiting_holds⟩, trivial⟩⟩⟩⟩ hr pass_def (mix (hu_of hr) (mfld (ClsL.all (cs := [7]) ⟨⟨T.c_Heap, T.na_Heap_there⟩, trivial⟩) (mvar (i := 0) rfl (.inl rfl))) (mix (hu_of hr) (mvar (i := 4) rfl (.inl rfl)) mint))) anil))))) snil)))) (sone (sret (malloc (mcallN st_New c_sort rfl T.b_sorted bt_sorted (mtyV st_New (c_list rfl) rfl T.b_list bt_list (acons (mvar (i := 2) rfl (.inl rfl)) anil)))))))))
theorem ok_Heap_collect {f : Addr} {fd : FuncData} (F : Fun K "collect" "Heap.collect" s_Heap_collect f fd) (T : Txt K mg cA) (M_Heap_numbers : MtM P w K mg base cA 1 "numbers" 7 1 F_Heap_numbers) (M_Heap_reached : MtM P w K mg base cA 3 "reached" 7 2 F_Heap_reached) : FnOk P w K mg base (L2.CX P w) 4 f fd ["self", "values"] (spM K cA F_Heap_collect 2) :=
  defM F sc_Heap_collect fun cdv A outer s H E hr => by
    unfold m_Heap_collect
    exact (scons (sset (i := 2) sc_Heap_collect.nd rfl (.inr rfl) (mtyN st_V (c_pairs rfl) rfl T.b_dict bt_dict (mcomp (t := .one 4) (own := [("number", 4)]) rfl rfl sc_Heap_collect.nd (isrc (mmeth (tbl := [(7, F_Heap_reached)]) ⟨⟨_, by decide, M_Heap_reached⟩, trivial⟩ hr pass_def (mvar (i := 0) rfl (.inl rfl)) (acons (mvar (i := 1) rfl (.inl rfl)) anil))) (blkOk_by (N := N_Heap_collect) (sc := defScope s_Heap_collect) (by decide +kernel)) (fun _ _ _ _ _ => pg_name (i := 4) sc_Heap_collect.nd rfl (Or.inl rfl)) (fun _ _ _ _ _ => tyes) (fun _ _ _ _ _ => (mtup (acons (mvar (i := 4) rfl (.inl rfl)) (acons mbl anil))))))) (scons (ssetC (i := 3) (t := .one 4) (own := [("number", 4)]) rfl rfl sc_Heap_collect.nd rfl rfl (sw_true rfl rfl rfl (by decide +kernel)) (isrc (mmeth0 (tbl := [(7, F_Heap_numbers)]) ⟨⟨_, by decide, M_Heap_numbers⟩, trivial⟩ hr pass_def (mvar (i := 0) rfl (.inl rfl)))) (blkOk_by (N := N_Heap_collect) (sc := defScope s_Heap_collect) (by decide +kernel)) (fun _ _ _ _ _ => pg_name (i := 4) sc_Heap_collect.nd rfl (Or.inl rfl)) (fun _ _ _ _ _ => (tone (mcmpT (op_notInM (hu_of hr)) (mvar (i := 4) rfl (.inl rfl)) (mvar (i := 2) rfl (by first | exact .inr (.inr rfl) | exact .inr (.inl rfl) | exact .inl rfl)) rfl))) (fun _ _ _ _ _ => (mvar (i := 4) rfl (.inl rfl)))) (scons (sfor own_def rfl (isrc (mvar (i := 3) rfl (.inl rfl))) (gname (i := 4) sc_Heap_collect.nd rfl (.inl rfl)) (sone (sexpr (mdpop (mfld (ClsL.all (cs := [7]) ⟨⟨T.c_Heap, T.na_Heap_there⟩, trivial⟩) (mvar (i := 0) rfl (.inl rfl))) (mvar (i := 4) rfl (.inl rfl)))))) (sone (sret (mvar (i := 3) rfl (.inl rfl)))))))
theorem ok__law_chain {f : Addr} {fd : FuncData} (F : Fun K "_law_chain" "_law_chain" s__law_chain f fd) (T : Txt K mg cA) (M_Heap_collect : MtM P w K mg base cA 4 "collect" 7 2 F_Heap_collect) (M_Heap_numbers : MtM P w K mg base cA 1 "numbers" 7 1 F_Heap_numbers) (M_Heap_put : MtM P w K mg base cA 4 "put" 7 2 F_Heap_put) (K_Heap : MkM P w K mg base cA 1 "Heap" 7 1 F_HeapXX_initXX) : FnOk P w K mg base (L2.CX P w) 5 f fd ["_law_cell"] (spM K cA F__law_chain 1) :=
  defM F sc__law_chain fun cdv A outer s H E hr => by
    unfold m__law_chain
    exact (scons (sset (i := 1) sc__law_chain.nd rfl (.inl rfl) (mmake0 K_Heap (by decide) hr pass_def rfl)) (scons (sset (i := 2) sc__law_chain.nd rfl (.inl rfl) (mbin op_addM mint (mbin op_modM (mvar (i := 0) rfl (.inl rfl)) mint))) (scons (sexpr (mmeth (tbl := [(7, F_Heap_put)]) ⟨⟨_, by decide, M_Heap_put⟩, trivial⟩ hr pass_def (mvar (i := 1) rfl (.inl rfl)) (acons (mtup (acons mstr (acons mnon anil))) anil))) (scons (sfor own_def rfl (irng2 rfl T.b_range (acons mint (acons (mvar (i := 2) rfl (.inl rfl)) anil))) (gname (i := 3) sc__law_chain.nd rfl (.inl rfl)) (sone (sexpr (mmeth (tbl := [(7, F_Heap_put)]) ⟨⟨_, by decide, M_Heap_put⟩, trivial⟩ hr pass_def (mvar (i := 1) rfl (.inl rfl)) (acons (mtup (acons mstr (acons (mtup (acons mstr (acons (mbin op_subM (mvar (i := 3) rfl (.inl rfl)) mint) anil))) anil))) anil))))) (scons (sset (i := 4) sc__law_chain.nd rfl (.inl rfl) (mbin op_modM (mbin op_fdivM (mvar (i := 0) rfl (.inl rfl)) mint) (mvar (i := 2) rfl (.inl rfl)))) (scons (sif (mcmpT (op_neM hr.units) (mmeth (tbl := [(7, F_Heap_collect)]) ⟨⟨_, by decide, M_Heap_collect⟩, trivial⟩ hr pass_def (mvar (i := 1) rfl (.inl rfl)) (acons (malloc (mlst (acons (mtup (acons mstr (acons (mvar (i := 4) rfl (.inl rfl)) anil))) (acons (mtup (acons mstr (acons mint anil))) anil)))) anil)) (malloc (mrngN2 rfl rfl T.b_list rfl T.b_range (mbin op_addM (mvar (i := 4) rfl (.inl rfl)) mint) (mvar (i := 2) rfl (.inl rfl)))) (nomark _)) (sone (sret mbl)) snil) (scons (sif (mcmpT (op_neM hr.units) (mmeth0 (tbl := [(7, F_Heap_numbers)]) ⟨⟨_, by decide, M_Heap_numbers⟩, trivial⟩ hr pass_def (mvar (i := 1) rfl (.inl rfl))) (malloc (mrngN1 rfl rfl T.b_list rfl T.b_range (mbin op_addM (mvar (i := 4) rfl (.inl rfl)) mint))) (nomark _)) (sone (sret mbl)) snil) (sone (sret (mand (mcmp (op_eqM hr.units) (mmeth (tbl := [(7, F_Heap_collect)]) ⟨⟨_, by decide, M_Heap_collect⟩, trivial⟩ hr pass_def (mvar (i := 1) rfl (.inl rfl)) (acons (malloc (mlst anil)) anil)) (malloc (mrngN1 rfl rfl T.b_list rfl T.b_range (mbin op_addM (mvar (i := 4) rfl (.inl rfl)) mint))) (nomark _)) (mand (mcmp (op_eqM hr.units) (mmeth0 (tbl := [(7, F_Heap_numbers)]) ⟨⟨_, by decide, M_Heap_numbers⟩, trivial⟩ hr pass_def (mvar (i := 1) rfl (.inl rfl))) (malloc (mlst anil)) (nomark _)) (mone (mcmp (op_eqM hr.units) (mmeth (tbl := [(7, F_Heap_put)]) ⟨⟨_, by decide, M_Heap_put⟩, trivial⟩ hr pass_def (mvar (i := 1) rfl (.inl rfl)) (acons (mtup (acons mstr (acons mnon anil))) anil)) (mvar (i := 2) rfl (.inl rfl)) (nomark _))))))))))))))
theorem ok__law_values {f : Addr} {fd : FuncData} (F : Fun K "_law_values" "_law_values" s__law_values f fd) (T : Txt K mg cA)  : FnOk P w K mg base (L2.CX P w) 1 f fd ["_law_thing_here"] (spM K cA F__law_values 1) :=
  defM F sc__law_values fun cdv A outer s H E hr => by
    unfold m__law_values
    exact (scons (sif (mcmpT (op_eqM hr.units) (mix (hu_of hr) (mvar (i := 0) rfl (.inl rfl)) mint) mstr (nomark _)) (sone (sret (malloc (mlst (acons (mix (hu_of hr) (mvar (i := 0) rfl (.inl rfl)) mint) anil))))) snil) (scons (sset (i := 1) sc__law_values.nd rfl (.inl rfl) (malloc (mlst anil))) (scons (sfor own_def rfl (isrc (mslice (mvar (i := 0) rfl (.inl rfl)) (osome mint) ono)) (gname (i := 2) sc__law_values.nd rfl (.inl rfl)) (sone (sif (mval (misi ok_tuple (mvar (i := 2) rfl (.inl rfl)) rfl T.b_isinstance rfl T.b_tuple bt_tuple bt_isinstance)) (sone (sfor own_def rfl (isrc (mvar (i := 2) rfl (.inl rfl))) (gname (i := 3) sc__law_values.nd rfl (.inl rfl)) (sone (sexpr (mlm PySem.F.slot_list_append PySem.F.type_list_append mt_appendM (mvar (i := 1) rfl (.inl rfl)) (acons (mif (mval (misi ok_int (mvar (i := 3) rfl (.inl rfl)) rfl T.b_isinstance rfl T.b_int bt_int bt_isinstance)) (mtup (acons mstr (acons (mvar (i := 3) rfl (.inl rfl)) anil))) (mvar (i := 3) rfl (.inl rfl))) anil)))))) snil))) (sone (sret (mvar (i := 1) rfl (.inl rfl)))))))
theorem ok__law_reached {f : Addr} {fd : FuncData} (F : Fun K "_law_reached" "_law_reached" s__law_reached f fd) (T : Txt K mg cA) (C__law_values : FnM P w K mg base cA 1 "_law_values" 1 F__law_values) : FnOk P w K mg base (L2.CX P w) 2 f fd ["_law_things", "_law_values_here"] (spM K cA F__law_reached 2) :=
  defM F sc__law_reached fun cdv A outer s H E hr => by
    unfold m__law_reached
    exact (scons (sset (i := 2) sc__law_reached.nd rfl (.inl rfl) (malloc (mlst anil))) (scons (sset (i := 3) sc__law_reached.nd rfl (.inl rfl) (malloc (mtyV st_New (c_list rfl) rfl T.b_list bt_list (acons (mvar (i := 1) rfl (.inl rfl)) anil)))) (scons (swhile FU own_def (mcmpT (op_neM hr.units) (mvar (i := 3) rfl (.inl rfl)) (malloc (mlst anil)) (nomark _)) (scons (sset (i := 4) sc__law_reached.nd rfl (.inl rfl) (mlm PySem.F.slot_list_pop PySem.F.type_list_pop mt_popAtM (mvar (i := 3) rfl (.inl rfl)) (acons mint anil))) (sone (sif (PW.pt (mandT (mcmpT op_isNotM (mvar (i := 4) rfl (.inl rfl)) mnon (nomark _)) (mandT (mcmpT (op_eqM hr.units) (mix (hu_of hr) (mvar (i := 4) rfl (.inl rfl)) mint) mstr (nomark _)) (mand1 (mcmpT (op_notInM (hu_of hr)) (mix (hu_of hr) (mvar (i := 4) rfl (.inl rfl)) mint) (mvar (i := 2) rfl (.inl rfl)) rfl))))) (scons (sexpr (mlm PySem.F.slot_list_append PySem.F.type_list_append mt_appendM (mvar (i := 2) rfl (.inl rfl)) (acons (mix (hu_of hr) (mvar (i := 4) rfl (.inl rfl)) mint) anil))) (sone (sset (i := 3) sc__law_reached.nd rfl (.inl rfl) (mbin op_addM (mvar (i := 3) rfl (.inl rfl)) (mcall C__law_values (by decide) hr pass_def rfl (acons (mix (hu_of hr) (mvar (i := 0) rfl (.inl rfl)) (mix (hu_of hr) (mvar (i := 4) rfl (.inl rfl)) mint)) anil)))))) snil)))) (sone (sret (malloc (mcallL st_New c_sort rfl T.b_sorted bt_sorted (mvar (i := 2) rfl (.inl rfl)))))))))
theorem ok__law_collected {f : Addr} {fd : FuncData} (F : Fun K "_law_collected" "_law_collected" s__law_collected f fd) (T : Txt K mg cA) (C__law_reached : FnM P w K mg base cA 2 "_law_reached" 2 F__law_reached) (M_Heap_collect : MtM P w K mg base cA 4 "collect" 7 2 F_Heap_collect) : FnOk P w K mg base (L2.CX P w) 5 f fd ["_law_heap", "_law_things", "_law_values_here", "_law_held"] (spM K cA F__law_collected 4) :=
  defM F sc__law_collected fun cdv A outer s H E hr => by
    unfold m__law_collected
    exact (scons (sset (i := 4) sc__law_collected.nd rfl (.inl rfl) (malloc (mtyV st_New (c_list rfl) rfl T.b_list bt_list (acons (mvar (i := 2) rfl (.inl rfl)) anil)))) (scons (sset (i := 5) sc__law_collected.nd rfl (.inr rfl) (mcall C__law_reached (by decide) hr pass_def rfl (acons (mvar (i := 1) rfl (.inl rfl)) (acons (mvar (i := 2) rfl (.inl rfl)) anil)))) (scons (ssetC (i := 6) (t := .one 8) (own := [("_law_k", 8)]) rfl rfl sc__law_collected.nd rfl rfl (sw_true rfl rfl rfl (by decide +kernel)) (isrcN (mcallN st_New c_sort rfl T.b_sorted bt_sorted (mtyV st_New (c_list rfl) rfl T.b_list bt_list (acons (mvar (i := 1) rfl (.inl rfl)) anil)))) (blkOk_by (N := N__law_collected) (sc := defScope s__law_collected) (by decide +kernel)) (fun _ _ _ _ _ => pg_name (i := 8) sc__law_collected.nd rfl (Or.inl rfl)) (fun _ _ _ _ _ => (tone (mcmpT (op_notInM (hu_of hr)) (mvar (i := 8) rfl (.inl rfl)) (mvar (i := 5) rfl (by first | exact .inr (.inr rfl) | exact .inr (.inl rfl) | exact .inl rfl)) rfl))) (fun _ _ _ _ _ => (mvar (i := 8) rfl (.inl rfl)))) (scons (sset (i := 7) sc__law_collected.nd rfl (.inl rfl) (mmeth (tbl := [(7, F_Heap_collect)]) ⟨⟨_, by decide, M_Heap_collect⟩, trivial⟩ hr pass_def (mvar (i := 0) rfl (.inl rfl)) (acons (mvar (i := 4) rfl (.inl rfl)) anil))) (scons (sif (PW.pt (morT (mnotT (mval (misi ok_list (mvar (i := 7) rfl (.inl rfl)) rfl T.b_isinstance rfl T.b_list bt_list bt_isinstance))) (morT (mcmpT (op_neM hr.units) (mvar (i := 7) rfl (.inl rfl)) (mvar (i := 6) rfl (.inl rfl)) (nomark _)) (mor1 (mcmpT (op_neM hr.units) (mvar (i := 4) rfl (.inl rfl)) (mvar (i := 2) rfl (.inl rfl)) (nomark _)))))) (sone (sret mbl)) snil) (scons (sexpr (mlm PySem.F.slot_list_append PySem.F.type_list_append mt_appendM (mvar (i := 3) rfl (.inl rfl)) (acons (mtup (acons (mvar (i := 7) rfl (.inl rfl)) (acons (mvar (i := 6) rfl (.inl rfl)) anil))) anil))) (scons (sfor own_def rfl (isrc (mvar (i := 6) rfl (.inl rfl))) (gname (i := 8) sc__law_collected.nd rfl (.inl rfl)) (sone (sexpr (mdpop (mvar (i := 1) rfl (.inl rfl)) (mvar (i := 8) rfl (.inl rfl)))))) (sone (sret (mcmp (op_eqM hr.units) (mmeth (tbl := [(7, F_Heap_collect)]) ⟨⟨_, by decide, M_Heap_collect⟩, trivial⟩ hr pass_def (mvar (i := 0) rfl (.inl rfl)) (acons (mvar (i := 2) rfl (.inl rfl)) anil)) (malloc (mlst anil)) (nomark _)))))))))))
theorem ok__law_draw {f : Addr} {fd : FuncData} (F : Fun K "_law_draw" "_law_draw" s__law_draw f fd) (T : Txt K mg cA)  : FnOk P w K mg base (L2.CX P w) 1 f fd ["_law_script", "_law_k"] (spM K cA F__law_draw 2) :=
  defM F sc__law_draw fun cdv A outer s H E hr => by
    unfold m__law_draw
    exact (sone (sret (mif (mcmpT op_gtM (mcallV st_V c_lenV rfl T.b_len bt_len (acons (mvar (i := 0) rfl (.inl rfl)) anil)) (mvar (i := 1) rfl (.inl rfl)) (nomark _)) (mix (hu_of hr) (mvar (i := 0) rfl (.inl rfl)) (mvar (i := 1) rfl (.inl rfl))) mint)))
theorem ok_Box_shape {f : Addr} {fd : FuncData} (F : Fun K "shape" "Box.shape" s_Box_shape f fd) (T : Txt K mg cA)  : FnOk P w K mg base (L2.CX P w) 1 f fd ["self"] (spM K cA F_Box_shape 1) :=
  defM F sc_Box_shape fun cdv A outer s H E hr => by
    unfold m_Box_shape
    exact (sone (sret (mtup (acons mstr (acons (mfld (ClsL.all (cs := [3]) ⟨⟨T.c_Box, T.na_Box_value⟩, trivial⟩) (mvar (i := 0) rfl (.inl rfl))) anil)))))
theorem ok_Looper_kind_word {f : Addr} {fd : FuncData} (F : Fun K "kind_word" "Looper.kind_word" s_Looper_kind_word f fd) (T : Txt K mg cA)  : FnOk P w K mg base (L2.CX P w) 1 f fd ["self"] (spM K cA F_Looper_kind_word 1) :=
  defM F sc_Looper_kind_word fun cdv A outer s H E hr => by
    unfold m_Looper_kind_word
    exact (sone (sret mstr))
theorem ok_Maker_kind_word {f : Addr} {fd : FuncData} (F : Fun K "kind_word" "Maker.kind_word" s_Maker_kind_word f fd) (T : Txt K mg cA)  : FnOk P w K mg base (L2.CX P w) 1 f fd ["self"] (spM K cA F_Maker_kind_word 1) :=
  defM F sc_Maker_kind_word fun cdv A outer s H E hr => by
    unfold m_Maker_kind_word
    exact (sone (sret mstr))
theorem ok_Waiting_kind_word {f : Addr} {fd : FuncData} (F : Fun K "kind_word" "Waiting.kind_word" s_Waiting_kind_word f fd) (T : Txt K mg cA)  : FnOk P w K mg base (L2.CX P w) 1 f fd ["self"] (spM K cA F_Waiting_kind_word 1) :=
  defM F sc_Waiting_kind_word fun cdv A outer s H E hr => by
    unfold m_Waiting_kind_word
    exact (sone (sret mstr))
theorem ok_Maker_shape {f : Addr} {fd : FuncData} (F : Fun K "shape" "Maker.shape" s_Maker_shape f fd) (T : Txt K mg cA) (M_Looper_kind_word : MtM P w K mg base cA 1 "kind_word" 5 1 F_Looper_kind_word) (M_Maker_kind_word : MtM P w K mg base cA 1 "kind_word" 4 1 F_Maker_kind_word) (M_Waiting_kind_word : MtM P w K mg base cA 1 "kind_word" 6 1 F_Waiting_kind_word) : FnOk P w K mg base (L2.CX P w) 2 f fd ["self"] (spM K cA F_Maker_shape 1) :=
  defM F sc_Maker_shape fun cdv A outer s H E hr => by
    unfold m_Maker_shape
    exact (sone (sret (mtup (acons (mmeth0 (tbl := [(4, F_Maker_kind_word), (5, F_Looper_kind_word), (6, F_Waiting_kind_word)]) ⟨⟨_, by decide, M_Maker_kind_word⟩, ⟨⟨_, by decide, M_Looper_kind_word⟩, ⟨⟨_, by decide, M_Waiting_kind_word⟩, trivial⟩⟩⟩ hr pass_def (mvar (i := 0) rfl (.inl rfl))) (acons (mfld (ClsL.all (cs := [4, 5, 6]) ⟨⟨T.c_Maker, T.na_Maker_own⟩, ⟨⟨T.c_Looper, T.na_Looper_own⟩, ⟨⟨T.c_Waiting, T.na_Waiting_own⟩, trivial⟩⟩⟩) (mvar (i := 0) rfl (.inl rfl))) (acons (mfld (ClsL.all (cs := [4, 5, 6]) ⟨⟨T.c_Maker, T.na_Maker_taken⟩, ⟨⟨T.c_Looper, T.na_Looper_taken⟩, ⟨⟨T.c_Waiting, T.na_Waiting_taken⟩, trivial⟩⟩⟩) (mvar (i := 0) rfl (.inl rfl))) anil))))))
theorem ok_Waiting_shape {f : Addr} {fd : FuncData} (F : Fun K "shape" "Waiting.shape" s_Waiting_shape f fd) (T : Txt K mg cA) (M_Looper_kind_word : MtM P w K mg base cA 1 "kind_word" 5 1 F_Looper_kind_word) (M_Maker_kind_word : MtM P w K mg base cA 1 "kind_word" 4 1 F_Maker_kind_word) (M_Waiting_kind_word : MtM P w K mg base cA 1 "kind_word" 6 1 F_Waiting_kind_word) : FnOk P w K mg base (L2.CX P w) 2 f fd ["self"] (spM K cA F_Waiting_shape 1) :=
  defM F sc_Waiting_shape fun cdv A outer s H E hr => by
    unfold m_Waiting_shape
    exact (sone (sret (mtup (acons (mmeth0 (tbl := [(4, F_Maker_kind_word), (5, F_Looper_kind_word), (6, F_Waiting_kind_word)]) ⟨⟨_, by decide, M_Maker_kind_word⟩, ⟨⟨_, by decide, M_Looper_kind_word⟩, ⟨⟨_, by decide, M_Waiting_kind_word⟩, trivial⟩⟩⟩ hr pass_def (mvar (i := 0) rfl (.inl rfl))) (acons (mfld (ClsL.all (cs := [4, 5, 6]) ⟨⟨T.c_Maker, T.na_Maker_own⟩, ⟨⟨T.c_Looper, T.na_Looper_own⟩, ⟨⟨T.c_Waiting, T.na_Waiting_own⟩, trivial⟩⟩⟩) (mvar (i := 0) rfl (.inl rfl))) (acons (mfld (ClsL.all (cs := [6]) ⟨⟨T.c_Waiting, T.na_Waiting_at⟩, trivial⟩) (mvar (i := 0) rfl (.inl rfl))) (acons (mfld (ClsL.all (cs := [6]) ⟨⟨T.c_Waiting, T.na_Waiting_slots⟩, trivial⟩) (mvar (i := 0) rfl (.inl rfl))) (acons (mfld (ClsL.all (cs := [6]) ⟨⟨T.c_Waiting, T.na_Waiting_boxes⟩, trivial⟩) (mvar (i := 0) rfl (.inl rfl))) (acons (mfld (ClsL.all (cs := [4, 5, 6]) ⟨⟨T.c_Maker, T.na_Maker_taken⟩, ⟨⟨T.c_Looper, T.na_Looper_taken⟩, ⟨⟨T.c_Waiting, T.na_Waiting_taken⟩, trivial⟩⟩⟩) (mvar (i := 0) rfl (.inl rfl))) anil)))))))))
theorem ok_Heap_thing {f : Addr} {fd : FuncData} (F : Fun K "thing" "Heap.thing" s_Heap_thing f fd) (T : Txt K mg cA) (M_Box_shape : MtM P w K mg base cA 1 "shape" 3 1 F_Box_shape) (M_Heap_need : MtM P w K mg base cA 1 "need" 7 2 F_Heap_need) (M_Looper_shape : MtM P w K mg base cA 2 "shape" 5 1 F_Maker_shape) (M_Maker_shape : MtM P w K mg base cA 2 "shape" 4 1 F_Maker_shape) (M_Waiting_shape : MtM P w K mg base cA 2 "shape" 6 1 F_Waiting_shape) : FnOk P w K mg base (L2.CX P w) 3 f fd ["self", "k"] (spM K cA F_Heap_thing 2) :=
  defM F sc_Heap_thing fun cdv A outer s H E hr => by
    unfold m_Heap_thing
    exact (scons (sexpr (mmeth (tbl := [(7, F_Heap_need)]) ⟨⟨_, by decide, M_Heap_need⟩, trivial⟩ hr pass_def (mvar (i := 0) rfl (.inl rfl)) (acons (mvar (i := 1) rfl (.inl rfl)) anil))) (sone (sret (mmeth0 (tbl := [(3, F_Box_shape), (4, F_Maker_shape), (5, F_Maker_shape), (6, F_Waiting_shape)]) ⟨⟨_, by decide, M_Box_shape⟩, ⟨⟨_, by decide, M_Maker_shape⟩, ⟨⟨_, by decide, M_Looper_shape⟩, ⟨⟨_, by decide, M_Waiting_shape⟩, trivial⟩⟩⟩⟩ hr pass_def (mix (hu_of hr) (mfld (ClsL.all (cs := [7]) ⟨⟨T.c_Heap, T.na_Heap_there⟩, trivial⟩) (mvar (i := 0) rfl (.inl rfl))) (mvar (i := 1) rfl (.inl rfl)))))))
theorem ok__law_is_gone {f : Addr} {fd : FuncData} (F : Fun K "_law_is_gone" "_law_is_gone" s__law_is_gone f fd) (T : Txt K mg cA) (M_Heap_thing : MtM P w K mg base cA 3 "thing" 7 2 F_Heap_thing) : FnOk P w K mg base (L2.CX P w) 4 f fd ["_law_heap", "_law_k"] (spM K cA F__law_is_gone 2) :=
  defM F sc__law_is_gone fun cdv A outer s H E hr => by
    unfold m__law_is_gone
    exact (scons (stry (i := 2) T.h_LoomError sc__law_is_gone.nd rfl ⟨rfl, by decide, .inl T.n_LoomError⟩ (takes_of rfl rfl rfl rfl) (fun W1 pn xe tk hp => (xone (xexpr (xmeth (tbl := [(7, F_Heap_thing)]) ⟨⟨_, by decide, M_Heap_thing⟩, trivial⟩ hr tk (fun _ => (mvar (i := 0) rfl (.inl rfl))) (fun _ => (acons (mvar (i := 1) rfl (.inl rfl)) anil)))))) (fun a oe pn z d hz hd hf => (sone (sret (misE T.isf hz hd hf (mvar (i := 2) rfl (.inl rfl)) (cown (j := 1) T.n_NoThing rfl) rfl T.b_isinstance))))) (sone (sret mbl)))
theorem ok__law_right {f : Addr} {fd : FuncData} (F : Fun K "_law_right" "_law_right" s__law_right f fd) (T : Txt K mg cA) (C__law_is_gone : FnM P w K mg base cA 4 "_law_is_gone" 2 F__law_is_gone) (M_Heap_numbers : MtM P w K mg base cA 1 "numbers" 7 1 F_Heap_numbers) (M_Heap_thing : MtM P w K mg base cA 3 "thing" 7 2 F_Heap_thing) : FnOk P w K mg base (L2.CX P w) 5 f fd ["_law_heap", "_law_things", "_law_count"] (spM K cA F__law_right 3) :=
  defM F sc__law_right fun cdv A outer s H E hr => by
    unfold m__law_right
    exact (scons (sset (i := 3) sc__law_right.nd rfl (.inl rfl) (malloc (mcallN st_New c_sort rfl T.b_sorted bt_sorted (mtyV st_New (c_list rfl) rfl T.b_list bt_list (acons (mvar (i := 1) rfl (.inr (.inl rfl))) anil))))) (scons (sif (PW.pt (morT (mcmpT (op_neM hr.units) (mmeth0 (tbl := [(7, F_Heap_numbers)]) ⟨⟨_, by decide, M_Heap_numbers⟩, trivial⟩ hr pass_def (mvar (i := 0) rfl (.inr (.inl rfl)))) (mvar (i := 3) rfl (.inl rfl)) (nomark _)) (mor1 (mneNT hr.units (mcomp (t := .one 4) (own := [("_law_k", 4)]) rfl rfl sc__law_right.nd (isrc (mvar (i := 3) rfl (.inl rfl))) (blkOk_by (N := N__law_right) (sc := defScope s__law_right) (by decide +kernel)) (fun _ _ _ _ _ => pg_name (i := 4) sc__law_right.nd rfl (Or.inl rfl)) (fun _ _ _ _ _ => tyes) (fun _ _ _ _ _ => (mmeth (tbl := [(7, F_Heap_thing)]) ⟨⟨_, by decide, M_Heap_thing⟩, trivial⟩ hr passL (mvar (i := 0) rfl (by first | exact .inr (.inr rfl) | exact .inr (.inl rfl) | exact .inl rfl)) (acons (mvar (i := 4) rfl (.inl rfl)) anil)))) (mcomp (t := .one 4) (own := [("_law_k", 4)]) rfl rfl sc__law_right.nd (isrc (mvar (i := 3) rfl (.inl rfl))) (blkOk_by (N := N__law_right) (sc := defScope s__law_right) (by decide +kernel)) (fun _ _ _ _ _ => pg_name (i := 4) sc__law_right.nd rfl (Or.inl rfl)) (fun _ _ _ _ _ => tyes) (fun _ _ _ _ _ => (mix (hu_of hr) (mvar (i := 1) rfl (by first | exact .inr (.inr rfl) | exact .inr (.inl rfl) | exact .inl rfl)) (mvar (i := 4) rfl (.inl rfl))))))))) (sone (sret mbl)) snil) (sone (sret (mcallN st_V (c_all rfl) rfl T.b_all bt_all (mcomp (t := .one 4) (own := [("_law_k", 4)]) rfl rfl sc__law_right.nd (irng1 rfl T.b_range (acons (mbin op_addM (mvar (i := 2) rfl (.inl rfl)) mint) anil)) (blkOk_by (N := N__law_right) (sc := defScope s__law_right) (by decide +kernel)) (fun _ _ _ _ _ => pg_name (i := 4) sc__law_right.nd rfl (Or.inl rfl)) (fun _ _ _ _ _ => (tone (mcmpT (op_notInM (hu_of hr)) (mvar (i := 4) rfl (.inl rfl)) (mvar (i := 1) rfl (by first | exact .inr (.inr rfl) | exact .inr (.inl rfl) | exact .inl rfl)) rfl))) (fun _ _ _ _ _ => (mcall C__law_is_gone (by decide) hr passL rfl (acons (mvar (i := 0) rfl (by first | exact .inr (.inr rfl) | exact .inr (.inl rfl) | exact .inl rfl)) (acons (mvar (i := 4) rfl (.inl rfl)) anil))))))))))
theorem ok__law_spread {f : Addr} {fd : FuncData} (F : Fun K "_law_spread" "_law_spread" s__law_spread f fd) (T : Txt K mg cA)  : FnOk P w K mg base (L2.CX P w) 1 f fd ["_law_cell", "_law_k"] (spM K cA F__law_spread 2) :=
  defM F sc__law_spread fun cdv A outer s H E hr => by
    unfold m__law_spread
    exact (sone (sret (mbin op_modM (mbin op_mulM (mbin op_addM (mvar (i := 0) rfl (.inl rfl)) mint) (mbin op_addM mint (mbin op_mulM (mbin op_mulM mint (mvar (i := 1) rfl (.inl rfl))) (mvar (i := 1) rfl (.inl rfl))))) mint)))
theorem ok__law_boxes {f : Addr} {fd : FuncData} (F : Fun K "_law_boxes" "_law_boxes" s__law_boxes f fd) (T : Txt K mg cA)  : FnOk P w K mg base (L2.CX P w) 1 f fd ["_law_cell", "_law_there"] (spM K cA F__law_boxes 2) :=
  defM F sc__law_boxes fun cdv A outer s H E hr => by
    unfold m__law_boxes
    exact (scons (sif (mcmpT (op_eqM hr.units) (mvar (i := 1) rfl (.inr (.inl rfl))) (malloc (mlst anil)) (nomark _)) (sone (sret (mtup anil))) snil) (sone (sret (mtyN st_V c_tup rfl T.b_tuple bt_tuple (mcomp (t := .one 2) (own := [("_law_k", 2)]) rfl rfl sc__law_boxes.nd (irng1 rfl T.b_range (acons (mbin op_modM (mvar (i := 0) rfl (.inr (.inl rfl))) mint) anil)) (blkOk_by (N := N__law_boxes) (sc := defScope s__law_boxes) (by decide +kernel)) (fun _ _ _ _ _ => pg_name (i := 2) sc__law_boxes.nd rfl (Or.inl rfl)) (fun _ _ _ _ _ => tyes) (fun _ _ _ _ _ => (mix (hu_of hr) (mvar (i := 1) rfl (by first | exact .inr (.inr rfl) | exact .inr (.inl rfl) | exact .inl rfl)) (mbin op_modM (mbin op_fdivM (mbin op_fdivM (mvar (i := 0) rfl (by first | exact .inr (.inr rfl) | exact .inr (.inl rfl) | exact .inl rfl)) mint) (mbin op_addM mint (mbin op_mulM mint (mvar (i := 2) rfl (.inl rfl))))) (mcallV st_V c_lenV rfl T.b_len bt_len (acons (mvar (i := 1) rfl (by first | exact .inr (.inr rfl) | exact .inr (.inl rfl) | exact .inl rfl)) anil))))))))))
theorem ok__law_value {f : Addr} {fd : FuncData} (F : Fun K "_law_value" "_law_value" s__law_value f fd) (T : Txt K mg cA)  : FnOk P w K mg base (L2.CX P w) 1 f fd ["_law_cell", "_law_there"] (spM K cA F__law_value 2) :=
  defM F sc__law_value fun cdv A outer s H E hr => by
    unfold m__law_value
    exact (scons (sif (PW.pt (mandT (mcmpT op_ltM (mbin op_modM (mvar (i := 0) rfl (.inl rfl)) mint) mint (nomark _)) (mand1 (mcmpT (op_neM hr.units) (mvar (i := 1) rfl (.inl rfl)) (malloc (mlst anil)) (nomark _))))) (sone (sret (mtup (acons mstr (acons (mix (hu_of hr) (mvar (i := 1) rfl (.inl rfl)) (mbin op_modM (mbin op_fdivM (mvar (i := 0) rfl (.inl rfl)) mint) (mcallV st_V c_lenV rfl T.b_len bt_len (acons (mvar (i := 1) rfl (.inl rfl)) anil)))) anil))))) snil) (scons (sif (mcmpT (op_eqM hr.units) (mbin op_modM (mvar (i := 0) rfl (.inl rfl)) mint) mint (nomark _)) (sone (sret mnon)) snil) (sone (sret (mtup (acons mstr (acons (mbin op_modM (mbin op_fdivM (mvar (i := 0) rfl (.inl rfl)) mint) mint) anil)))))))
theorem ok__law_thing {f : Addr} {fd : FuncData} (F : Fun K "_law_thing" "_law_thing" s__law_thing f fd) (T : Txt K mg cA) (C__law_boxes : FnM P w K mg base cA 1 "_law_boxes" 2 F__law_boxes) (C__law_spread : FnM P w K mg base cA 1 "_law_spread" 2 F__law_spread) (C__law_value : FnM P w K mg base cA 1 "_law_value" 2 F__law_value) : FnOk P w K mg base (L2.CX P w) 2 f fd ["_law_cell", "_law_there"] (spM K cA F__law_thing 2) :=
  defM F sc__law_thing fun cdv A outer s H E hr => by
    unfold m__law_thing
    exact (scons (sset (i := 2) sc__law_thing.nd rfl (.inr rfl) (mcall C__law_spread (by decide) hr pass_def rfl (acons (mvar (i := 0) rfl (.inl rfl)) (acons mint anil)))) (scons (sif (mcmpT op_ltM (mbin op_modM (mvar (i := 0) rfl (.inl rfl)) mint) mint (nomark _)) (sone (sret (mtup (acons mstr (acons (mcall C__law_value (by decide) hr pass_def rfl (acons (mvar (i := 2) rfl (.inr (.inl rfl))) (acons (mvar (i := 1) rfl (.inr (.inl rfl))) anil))) anil))))) snil) (scons (sif (mcmpT (op_eqM hr.units) (mbin op_modM (mvar (i := 0) rfl (.inl rfl)) mint) mint (nomark _)) (sone (sret (mtup (acons mstr (acons (mbin op_modM (mvar (i := 2) rfl (.inr (.inl rfl))) mint) (acons (mcall C__law_boxes (by decide) hr pass_def rfl (acons (mbin op_fdivM (mvar (i := 2) rfl (.inr (.inl rfl))) mint) (acons (mvar (i := 1) rfl (.inr (.inl rfl))) anil))) anil)))))) snil) (scons (sif (PW.pt (mandT (mcmpT (op_eqM hr.units) (mbin op_modM (mvar (i := 0) rfl (.inl rfl)) mint) mint (nomark _)) (mand1 (mcmpT (op_eqM hr.units) (mbin op_modM (mvar (i := 2) rfl (.inr (.inl rfl))) mint) mint (nomark _))))) (scons (sset (i := 3) sc__law_thing.nd rfl (.inl rfl) (mix (hu_of hr) (malloc (mlst (acons mstr (acons mstr (acons mstr anil))))) (mbin op_modM (mbin op_fdivM (mvar (i := 2) rfl (.inr (.inl rfl))) mint) mint))) (sone (sret (mtup (acons mstr (acons (mbin op_modM (mbin op_fdivM (mvar (i := 2) rfl (.inr (.inl rfl))) mint) mint) (acons (mvar (i := 3) rfl (.inl rfl)) (acons (mtup anil) (acons (mtup anil) (acons (mcall C__law_boxes (by decide) hr pass_def rfl (acons (mbin op_mulM (mbin op_fdivM (mvar (i := 2) rfl (.inr (.inl rfl))) mint) (mtyV st_V c_int rfl T.b_int bt_int (acons (mcmp (op_eqM hr.units) (mvar (i := 3) rfl (.inl rfl)) mstr (nomark _)) anil))) (acons (mvar (i := 1) rfl (.inr (.inl rfl))) anil))) anil)))))))))) snil) (scons (sif (mcmpT (op_eqM hr.units) (mbin op_modM (mvar (i := 0) rfl (.inl rfl)) mint) mint (nomark _)) (scons (sset (i := 4) sc__law_thing.nd rfl (.inl rfl) (mtyN st_V c_tup rfl T.b_tuple bt_tuple (mcomp (t := .one 5) (own := [("_law_k", 5)]) rfl rfl sc__law_thing.nd (irng1 rfl T.b_range (acons (mbin op_modM (mvar (i := 2) rfl (.inr (.inl rfl))) mint) anil)) (blkOk_by (N := N__law_thing) (sc := defScope s__law_thing) (by decide +kernel)) (fun _ _ _ _ _ => pg_name (i := 5) sc__law_thing.nd rfl (Or.inl rfl)) (fun _ _ _ _ _ => tyes) (fun _ _ _ _ _ => (mcall C__law_value (by decide) hr passL rfl (acons (mcall C__law_spread (by decide) hr passL rfl (acons (mvar (i := 2) rfl (by first | exact .inr (.inr rfl) | exact .inr (.inl rfl) | exact .inl rfl)) (acons (mvar (i := 5) rfl (.inl rfl)) anil))) (acons (mvar (i := 1) rfl (by first | exact .inr (.inr rfl) | exact .inr (.inl rfl) | exact .inl rfl)) anil))))))) (sone (sret (mtup (acons mstr (acons (mbin op_modM (mbin op_fdivM (mvar (i := 2) rfl (.inr (.inl rfl))) mint) mint) (acons mint (acons (mvar (i := 4) rfl (.inl rfl)) (acons (mcall C__law_boxes (by decide) hr pass_def rfl (acons (mbin op_fdivM (mvar (i := 2) rfl (.inr (.inl rfl))) mint) (acons (mvar (i := 1) rfl (.inr (.inl rfl))) anil))) (acons (mcall C__law_boxes (by decide) hr pass_def rfl (acons (mbin op_fdivM (mvar (i := 2) rfl (.inr (.inl rfl))) mint) (acons (mvar (i := 1) rfl (.inr (.inl rfl))) anil))) anil)))))))))) snil) (sone (sret (mtup (acons mstr (acons (mbin op_modM (mvar (i := 2) rfl (.inr (.inl rfl))) mint) (acons (mcall C__law_boxes (by decide) hr pass_def rfl (acons (mbin op_fdivM (mvar (i := 2) rfl (.inr (.inl rfl))) mint) (acons (mvar (i := 1) rfl (.inr (.inl rfl))) anil))) anil)))))))))))
theorem ok_law {f : Addr} {fd : FuncData} (F : Fun K "law" "law" s_law f fd) (T : Txt K mg cA) (C__law_chain : FnM P w K mg base cA 5 "_law_chain" 1 F__law_chain) (C__law_collected : FnM P w K mg base cA 5 "_law_collected" 4 F__law_collected) (C__law_draw : FnM P w K mg base cA 1 "_law_draw" 2 F__law_draw) (C__law_right : FnM P w K mg base cA 5 "_law_right" 3 F__law_right) (C__law_spread : FnM P w K mg base cA 1 "_law_spread" 2 F__law_spread) (C__law_thing : FnM P w K mg base cA 2 "_law_thing" 2 F__law_thing) (C__law_value : FnM P w K mg base cA 1 "_law_value" 2 F__law_value) (M_Heap_change : MtM P w K mg base cA 4 "change" 7 3 F_Heap_change) (M_Heap_numbers : MtM P w K mg base cA 1 "numbers" 7 1 F_Heap_numbers) (M_Heap_put : MtM P w K mg base cA 4 "put" 7 2 F_Heap_put) (K_Heap : MkM P w K mg base cA 1 "Heap" 7 1 F_HeapXX_initXX) : FnOk P w K mg base (L2.CX P w) 6 f fd ["_law_script"] (spM K cA F_law 1) :=
  defM F sc_law fun cdv A outer s H E hr => by
    unfold m_law
    exact (scons (sif (mcmpT (op_eqM hr.units) (mbin op_modM (mbin op_fdivM (mcall C__law_draw (by decide) hr pass_def rfl (acons (mvar (i := 0) rfl (.inl rfl)) (acons mint anil))) mint) mint) mint (nomark _)) (sone (sret (mcall C__law_chain (by decide) hr pass_def rfl (acons (mcall C__law_spread (by decide) hr pass_def rfl (acons (mcall C__law_draw (by decide) hr pass_def rfl (acons (mvar (i := 0) rfl (.inl rfl)) (acons mint anil))) (acons mint anil))) anil)))) snil) (scons (sset (i := 1) sc_law.nd rfl (.inl rfl) (malloc (mlst (acons (mmake0 K_Heap (by decide) hr pass_def rfl) (acons (mmake0 K_Heap (by decide) hr pass_def rfl) anil))))) (scons (sset (i := 2) sc_law.nd rfl (.inl rfl) (malloc (mlst (acons mdict0 (acons mdict0 anil))))) (scons (sset (i := 3) sc_law.nd rfl (.inl rfl) (malloc (mlst (acons mint (acons mint anil))))) (scons (sset (i := 4) sc_law.nd rfl (.inl rfl) (malloc (mlst anil))) (scons (sfor own_def rfl (isrc (mslice (mvar (i := 0) rfl (.inl rfl)) (osome mint) (osome mint))) (gname (i := 5) sc_law.nd rfl (.inr rfl)) (scons (sset (i := 5) sc_law.nd rfl (.inr rfl) (mcall C__law_spread (by decide) hr pass_def rfl (acons (mvar (i := 5) rfl (.inr (.inl rfl))) (acons mint anil)))) (scons (sset (i := 6) sc_law.nd rfl (.inl rfl) (mbin op_modM (mvar (i := 5) rfl (.inr (.inl rfl))) mint)) (scons (sset (i := 7) sc_law.nd rfl (.inr rfl) (malloc (mcallN st_New c_sort rfl T.b_sorted bt_sorted (mtyV st_New (c_list rfl) rfl T.b_list bt_list (acons (mix (hu_of hr) (mvar (i := 2) rfl (.inl rfl)) (mvar (i := 6) rfl (.inl rfl))) anil))))) (scons (sset (i := 8) sc_law.nd rfl (.inl rfl) (mbin op_modM (mbin op_fdivM (mvar (i := 5) rfl (.inr (.inl rfl))) mint) mint)) (scons (sif (PW.pt (morT (mcmpT op_ltM (mvar (i := 8) rfl (.inl rfl)) mint (nomark _)) (mor1 (mcmpT (op_eqM hr.units) (mvar (i := 7) rfl (.inr (.inl rfl))) (malloc (mlst anil)) (nomark _))))) (scons (sset (i := 10) sc_law.nd rfl (.inl rfl) (mcall C__law_thing (by decide) hr pass_def rfl (acons (mbin op_fdivM (mvar (i := 5) rfl (.inr (.inl rfl))) mint) (acons (mvar (i := 7) rfl (.inr (.inl rfl))) anil)))) (scons (sif (mcmpT (op_neM hr.units) (mmeth (tbl := [(7, F_Heap_put)]) ⟨⟨_, by decide, M_Heap_put⟩, trivial⟩ hr pass_def (mix (hu_of hr) (mvar (i := 1) rfl (.inl rfl)) (mvar (i := 6) rfl (.inl rfl))) (acons (mvar (i := 10) rfl (.inl rfl)) anil)) (mix (hu_of hr) (mvar (i := 3) rfl (.inl rfl)) (mvar (i := 6) rfl (.inl rfl))) (nomark _)) (sone (sret mbl)) snil) (scons (sasg (mvar (i := 10) rfl (.inl rfl)) (gsub (hu_of hr) (mix (hu_of hr) (mvar (i := 2) rfl (.inl rfl)) (mvar (i := 6) rfl (.inl rfl))) (mix (hu_of hr) (mvar (i := 3) rfl (.inl rfl)) (mvar (i := 6) rfl (.inl rfl))))) (sone (sasg (mbin op_addM (mix (hu_of hr) (mvar (i := 3) rfl (.inl rfl)) (mvar (i := 6) rfl (.inl rfl))) mint) (gsub (hu_of hr) (mvar (i := 3) rfl (.inl rfl)) (mvar (i := 6) rfl (.inl rfl)))))))) (sone (sif (mcmpT op_ltM (mvar (i := 8) rfl (.inl rfl)) mint (nomark _)) (scons (sset (i := 11) sc_law.nd rfl (.inl rfl) (mix (hu_of hr) (mvar (i := 7) rfl (.inr (.inl rfl))) (mbin op_modM (mbin op_fdivM (mvar (i := 5) rfl (.inr (.inl rfl))) mint) (mcallV st_V c_lenV rfl T.b_len bt_len (acons (mvar (i := 7) rfl (.inr (.inl rfl))) anil))))) (scons (sasg (mcall C__law_thing (by decide) hr pass_def rfl (acons (mbin op_fdivM (mvar (i := 5) rfl (.inr (.inl rfl))) mint) (acons (mvar (i := 7) rfl (.inr (.inl rfl))) anil))) (gsub (hu_of hr) (mix (hu_of hr) (mvar (i := 2) rfl (.inl rfl)) (mvar (i := 6) rfl (.inl rfl))) (mvar (i := 11) rfl (.inl rfl)))) (sone (sexpr (mmeth (tbl := [(7, F_Heap_change)]) ⟨⟨_, by decide, M_Heap_change⟩, trivial⟩ hr pass_def (mix (hu_of hr) (mvar (i := 1) rfl (.inl rfl)) (mvar (i := 6) rfl (.inl rfl))) (acons (mvar (i := 11) rfl (.inl rfl)) (acons (mix (hu_of hr) (mix (hu_of hr) (mvar (i := 2) rfl (.inl rfl)) (mvar (i := 6) rfl (.inl rfl))) (mvar (i := 11) rfl (.inl rfl))) anil))))))) (scons (ssetC (i := 12) (t := .one 9) (own := [("_law_k", 9)]) rfl rfl sc_law.nd rfl rfl (sw_true rfl rfl rfl (by decide +kernel)) (irng1 rfl T.b_range (acons (mbin op_modM (mbin op_fdivM (mvar (i := 5) rfl (.inr (.inl rfl))) mint) mint) anil)) (blkOk_by (N := N_law) (sc := defScope s_law) (by decide +kernel)) (fun _ _ _ _ _ => pg_name (i := 9) sc_law.nd rfl (Or.inl rfl)) (fun _ _ _ _ _ => tyes) (fun _ _ _ _ _ => (mcall C__law_value (by decide) hr passL rfl (acons (mcall C__law_spread (by decide) hr passL rfl (acons (mvar (i := 5) rfl (by first | exact .inr (.inr rfl) | exact .inr (.inl rfl) | exact .inl rfl)) (acons (mbin op_addM mint (mvar (i := 9) rfl (.inl rfl))) anil))) (acons (mvar (i := 7) rfl (by first | exact .inr (.inr rfl) | exact .inr (.inl rfl) | exact .inl rfl)) anil))))) (scons (sexpr (mlm PySem.F.slot_list_append PySem.F.type_list_append mt_appendM (mvar (i := 4) rfl (.inl rfl)) (acons (mtup (acons (mmeth0 (tbl := [(7, F_Heap_numbers)]) ⟨⟨_, by decide, M_Heap_numbers⟩, trivial⟩ hr pass_def (mix (hu_of hr) (mvar (i := 1) rfl (.inl rfl)) (mvar (i := 6) rfl (.inl rfl)))) (acons (mvar (i := 7) rfl (.inr (.inl rfl))) anil))) anil))) (sone (sif (mnotT (mval (mcall C__law_collected (by decide) hr pass_def rfl (acons (mix (hu_of hr) (mvar (i := 1) rfl (.inl rfl)) (mvar (i := 6) rfl (.inl rfl))) (acons (mix (hu_of hr) (mvar (i := 2) rfl (.inl rfl)) (mvar (i := 6) rfl (.inl rfl))) (acons (mvar (i := 12) rfl (.inl rfl)) (acons (mvar (i := 4) rfl (.inl rfl)) anil))))))) (sone (sret mbl)) snil))))))) (sone (sfor own_def rfl (isrc (mix (hu_of hr) (malloc (mlst (acons (malloc (mlst (acons mint (acons mint anil)))) (acons (malloc (mlst (acons mint (acons mint anil)))) anil)))) (mbin op_modM (mbin op_fdivM (mvar (i := 5) rfl (.inr (.inl rfl))) mint) mint))) (gname (i := 9) sc_law.nd rfl (.inl rfl)) (sone (sif (mnotT (mval (mcall C__law_right (by decide) hr pass_def rfl (acons (mix (hu_of hr) (mvar (i := 1) rfl (.inl rfl)) (mvar (i := 9) rfl (.inl rfl))) (acons (mix (hu_of hr) (mvar (i := 2) rfl (.inl rfl)) (mvar (i := 9) rfl (.inl rfl))) (acons (mix (hu_of hr) (mvar (i := 3) rfl (.inl rfl)) (mvar (i := 9) rfl (.inl rfl))) anil)))))) (sone (sret mbl)) snil)))))))))) (sone (sret (mcallN st_V (c_all rfl) rfl T.b_all bt_all (mcomp (t := .many [14, 13]) (own := [("_law_found", 14), ("_law_due", 13)]) rfl rfl sc_law.nd (isrc (mvar (i := 4) rfl (.inl rfl))) (blkOk_by (N := N_law) (sc := defScope s_law) (by decide +kernel)) (fun _ _ _ _ _ => pg_tup rfl (pgs_cons (pg_name (i := 14) sc_law.nd rfl (Or.inl rfl)) (pgs_cons (pg_name (i := 13) sc_law.nd rfl (Or.inl rfl)) (pgs_nil)))) (fun _ _ _ _ _ => tyes) (fun _ _ _ _ _ => (mcmp (op_eqM hr.units) (mvar (i := 14) rfl (.inl rfl)) (mvar (i := 13) rfl (.inl rfl)) (nomark _)))))))))))))
end
end K25

set_option Elab.async false
set_option linter.all false
set_option maxRecDepth 100000
set_option autoImplicit false
namespace K25
open PySem PySem.Spec L2 ML
inductive Val where
  | non | thing (k : Nat) | num (i : Int)
def Val.d : Val → D
  | .non => .non
  | .thing k => .tup [.str (Str.ofString "thing"), .int (k : Int)]
  | .num i => .tup [.str (Str.ofString "number"), .int i]
def Val.n : Val → List Nat
  | .thing k => [k]
  | _ => []
def nums (vs : List Val) : List Nat := vs.flatMap Val.n
inductive Th where
  | box (v : Val) | fn (own : Int) (tk : List Nat) | lo (own : Int) (tk : List Nat) | wt (own : Int) (at_ : D) (sl : List Val) (bx tk : List Nat)
def Th.d : Th → D
  | .box v => .tup [.str (Str.ofString "box"), v.d]
  | .fn own tk => .tup [.str (Str.ofString "fun"), .int own, .tup (intsD tk)]
  | .lo own tk => .tup [.str (Str.ofString "loop"), .int own, .tup (intsD tk)]
  | .wt own at_ sl bx tk => .tup [.str (Str.ofString "waiting"), .int own, at_, .tup (sl.map Val.d), .tup (intsD bx), .tup (intsD tk)]
def Th.cell : Th → Cell
  | .box v => .ins 3 [(Str.ofString "value", v.d)]
  | .fn own tk => .ins 4 [(Str.ofString "own", .int own), (Str.ofString "taken", .tup (intsD tk))]
  | .lo own tk => .ins 5 [(Str.ofString "own", .int own), (Str.ofString "taken", .tup (intsD tk))]
  | .wt own at_ sl bx tk => .ins 6 [(Str.ofString "own", .int own), (Str.ofString "at", at_), (Str.ofString "slots", .tup (sl.map Val.d)), (Str.ofString "boxes", .tup (intsD bx)), (Str.ofString "taken", .tup (intsD tk))]
def isSome : Val → Bool
  | .non => false
  | _ => true
/-- what the program's thing holds; what the law says -/
def Th.held : Th → List Val
  | .box .non => []
  | .box v => [v]
  | .fn _ tk => tk.map .thing
  | .lo _ tk => tk.map .thing
  | .wt _ _ sl bx tk => sl.filter isSome ++ bx.map .thing ++ tk.map .thing
def Th.told : Th → List Val
  | .box v => [v]
  | .fn _ tk => tk.map .thing
  | .lo _ tk => tk.map .thing
  | .wt _ _ sl bx tk => sl ++ bx.map .thing ++ tk.map .thing
def Th.succ (T : Th) : List Nat := nums T.told
theorem nums_app (a b : List Val) : nums (a ++ b) = nums a ++ nums b := List.flatMap_append
theorem nums_some (l : List Val) : nums (l.filter isSome) = nums l := by
  induction l with
  | nil => rfl
  | cons v l ih =>
    unfold nums at ih ⊢
    rw [List.filter_cons]
    cases v <;> simp [isSome, Val.n, ih]
theorem nums_held (T : Th) : nums T.held = T.succ := by
  cases T with
  | box v => cases v <;> rfl
  | fn own tk => rfl
  | lo own tk => rfl
  | wt own at_ sl bx tk => simp [Th.held, Th.succ, Th.told, nums_app, nums_some]
def atOk (d : D) : Prop := (∃ i, d = .int i) ∨ ∃ s, d = .str (Str.ofString s)
def Th.ok (n : List Nat) (T : Th) : Prop := (∀ k ∈ T.succ, k ∈ n) ∧ T.told.length ≤ 20 ∧ match T with
  | .wt _ at_ _ _ _ => atOk at_
  | _ => True
theorem held_len (T : Th) : T.held.length ≤ T.told.length := by
  cases T with
  | box v => cases v <;> simp [Th.held, Th.told]
  | fn own tk => exact Nat.le_refl _
  | lo own tk => exact Nat.le_refl _
  | wt own at_ sl bx tk =>
    have := List.length_filter_le isSome sl
    simp [Th.held, Th.told]
    omega
theorem thing_of_eq (T : Th) (S : Store) : F_thing_of [T.d] S = .ok (.ref S.length) (S ++ [T.cell]) := by
  cases T with
  | box v => simp [F_thing_of, m_thing_of, N_thing_of, startL, Th.d, Th.cell, atI, ixN, x_ix, F_BoxXX_initXX, m_BoxXX_initXX, N_BoxXX_initXX, putD]
  | fn own tk => simp [F_thing_of, m_thing_of, N_thing_of, startL, Th.d, Th.cell, atI, ixN, x_ix, F_MakerXX_initXX, m_MakerXX_initXX, N_MakerXX_initXX, putD]
  | lo own tk => simp [F_thing_of, m_thing_of, N_thing_of, startL, Th.d, Th.cell, atI, ixN, x_ix, F_MakerXX_initXX, m_MakerXX_initXX, N_MakerXX_initXX, putD]
  | wt own at_ sl bx tk => simp [F_thing_of, m_thing_of, N_thing_of, startL, Th.d, Th.cell, atI, ixN, x_ix, F_WaitingXX_initXX, m_WaitingXX_initXX, N_WaitingXX_initXX, putD]
/-! ### what is held -/
theorem seqI {tk : List Nat} {S : Store} {l : ML.Loc} (h : l[1]? = some none) (h2 : l[0]? = some (some (.tup (intsD tk)))) (hz : tk.length ≤ 1000) : compL still (.one 1) yesM (tupE (consA (conE (.str (Str.ofString "thing"))) (consA (varE 1) (nilA)))) l (intsD tk) [] S = .ok ((tk.map Val.thing).map Val.d) S := by
  unfold intsD
  have h1 : 1 < l.length := (List.getElem?_eq_some_iff.mp h).1
  rw [compL_mapG (fun k : Nat => D.int (k : Int)) (fun k : Nat => (Val.thing k).d) tk]
  · simp
  · intro k hk
    have e : varE 1 (l.set 1 (some (D.int (k : Int)))) S = .ok (.int (k : Int)) S := by
      unfold varE
      rw [List.getElem?_set_self h1]
    simp [e, Val.d, sz]
  · rw [sz]; omega
theorem boxes_eq (tk : List Nat) (S : Store) (hz : tk.length ≤ 1000) : F_boxes_as_values [.tup (intsD tk)] S = .ok (.ref S.length) (S ++ [.lst ((tk.map Val.thing).map Val.d)]) := by
  simp only [F_boxes_as_values, m_boxes_as_values, N_boxes_as_values, x_bodyF, startL]
  simp [Tgt.own, wipeL, -List.map_map]
  rw [seqI rfl rfl hz]
  simp
/-- how a thing tells what it holds -/
noncomputable def holdT : Tbl := [(3, F_Box_holds), (4, F_Maker_holds), (5, F_Maker_holds), (6, F_Waiting_holds)]
theorem holds_eq {T : Th} {S : Store} {r : Nat} (h : S[r]? = some T.cell) (hz : T.told.length ≤ 20) : ∃ c fs G X q, T.cell = .ins c fs ∧ fs.lookup (Str.ofString "holds") = none ∧ tblAt holdT c = some G ∧ G [.ref r] S = .ok (.ref q) (S ++ X) ∧ (S ++ X)[q]? = some (.lst (T.held.map Val.d)) := by
  cases T with
  | box v =>
    refine ⟨3, _, F_Box_holds, [.lst ((Th.box v).held.map Val.d)], S.length, rfl, by simp [List.lookup, beq_of], rfl, ?_, by simp⟩
    have e := insAt_of h
    cases v <;> simp [F_Box_holds, m_Box_holds, N_Box_holds, startL, e, List.lookup, beq_of, Val.d, Th.held, x_isN, sz]
  | fn own tk =>
    have e := insAt_of h
    simp [Th.told] at hz
    refine ⟨4, _, F_Maker_holds, [.lst ((Th.fn own tk).held.map Val.d)], S.length, rfl, by simp [List.lookup, beq_of], rfl, ?_, by simp⟩
    simp [F_Maker_holds, m_Maker_holds, N_Maker_holds, startL, e, List.lookup, beq_of, boxes_eq tk S (by omega), Th.held, -List.map_map]
  | lo own tk =>
    have e := insAt_of h
    simp [Th.told] at hz
    refine ⟨5, _, F_Maker_holds, [.lst ((Th.lo own tk).held.map Val.d)], S.length, rfl, by simp [List.lookup, beq_of], rfl, ?_, by simp⟩
    simp [F_Maker_holds, m_Maker_holds, N_Maker_holds, startL, e, List.lookup, beq_of, boxes_eq tk S (by omega), Th.held, -List.map_map]
  | wt own at_ sl bx tk =>
    have e := insAt_of h
    simp [Th.told] at hz
    have e2 := fun T => insAt_app (T := T) h
    refine ⟨6, _, F_Waiting_holds, [.lst ((sl.filter isSome).map Val.d), .lst ((bx.map Val.thing).map Val.d), .lst ((sl.filter isSome).map Val.d ++ (bx.map Val.thing).map Val.d), .lst ((tk.map Val.thing).map Val.d), .lst ((sl.filter isSome).map Val.d ++ (bx.map Val.thing).map Val.d ++ (tk.map Val.thing).map Val.d)], S.length + 4, rfl, by simp [List.lookup, beq_of], rfl, ?_, by simp [Th.held]⟩
    have hf : ((sl.filter isSome)).length ≤ sl.length := List.length_filter_le _ _
    have hc : compL still (Tgt.one 2) (cmpM isNotD (varE 2) (conE D.non)) (varE 2) [some (D.ref r), none, none] (sl.map Val.d) [] S = .ok ((sl.filter isSome).map Val.d) S := by
      rw [compL_filG Val.d isSome Val.d sl]
      · intro v hv
        cases v <;> simp [isSome, Val.d, x_inN]
      · intro v hv _
        simp
      · rw [sz]; omega
    simp only [F_Waiting_holds, m_Waiting_holds, N_Waiting_holds, x_bodyF, startL]
    simp [e, List.lookup, beq_of, Tgt.own, wipeL, hc, -List.map_map]
    have b1 := boxes_eq bx (S ++ [Cell.lst ((sl.filter isSome).map Val.d)]) (by omega)
    simp [-List.map_map] at b1
    simp [e2, List.lookup, beq_of, b1, -List.map_map]
    rw [x_addR (xs := (sl.filter isSome).map Val.d) (ys := (bx.map Val.thing).map Val.d) (by simp) (by simp) (by simp; omega), R.bind_ok]
    have b2 := boxes_eq tk (S ++ [Cell.lst ((sl.filter isSome).map Val.d), Cell.lst ((bx.map Val.thing).map Val.d)] ++ [Cell.lst ((sl.filter isSome).map Val.d ++ (bx.map Val.thing).map Val.d)]) (by omega)
    simp [-List.map_map] at b2
    simp [e2, List.lookup, beq_of, b2, -List.map_map]
    rw [x_addR (xs := (sl.filter isSome).map Val.d ++ (bx.map Val.thing).map Val.d) (ys := (tk.map Val.thing).map Val.d) (by simp) (by simp) (by simp; omega)]
    simp [-List.map_map]
/-! ### what the law says that is held -/
theorem inner_loop {α : Type} (f g : α → D) (hfg : ∀ (x : α) (x0 x1 x2 : Option D) (S : Store), (ifE (ofV (toV (isE "int" (varE 3)))) (tupE (consA (conE (.str (Str.ofString "thing"))) (consA (varE 3) (nilA)))) (varE 3)) [x0, x1, x2, some (f x)] S = .ok (g x) S) (x0 x2 : Option D) (S : Store) :
    ∀ (xs : List α) (acc : List D) (x3 : Option D), acc.length + xs.length < 1000 → ∃ y, forL still (nameT 3) b__law_values_1 (xs.map f) [x0, some (.ref S.length), x2, x3] (S ++ [.lst acc]) = .ok (.nx, [x0, some (.ref S.length), x2, y]) (S ++ [.lst (acc ++ xs.map g)])
  | [], acc, x3, _ => ⟨x3, by rw [List.map_nil, forL_nil trivial]; simp⟩
  | x :: xs, acc, x3, hz => by
    rw [List.length_cons] at hz
    obtain ⟨y, e⟩ := inner_loop f g hfg x0 x2 S xs (acc ++ [g x]) (some (f x)) (by simp; omega)
    refine ⟨y, ?_⟩
    rw [List.map_cons, forL_cons trivial]
    have h1 := x_append (S := S ++ [.lst acc]) (d := g x) (lstAt_end S acc) (by omega)
    rw [set_end] at h1
    have hb : b__law_values_1 [x0, some (.ref S.length), x2, some (f x)] (S ++ [.lst acc]) = .ok (.nx, [x0, some (.ref S.length), x2, some (f x)]) (S ++ [.lst (acc ++ [g x])]) := by
      have := hfg x x0 (some (.ref S.length)) x2 (S ++ [.lst acc])
      unfold b__law_values_1
      simp only [x_exprS, x_lmE, x_consA, x_nilA, this, x_varS, x_var0, x_lstOfR, lstAt_end, R.bind_ok, Option.isSome_some, if_true, h1]
    simp [hb, e]
theorem inner_ints (x0 x2 x3 : Option D) (S : Store) (tk : List Nat) (acc : List D) (hz : acc.length + tk.length < 1000) : ∃ y, forL still (nameT 3) b__law_values_1 (intsD tk) [x0, some (.ref S.length), x2, x3] (S ++ [.lst acc]) = .ok (.nx, [x0, some (.ref S.length), x2, y]) (S ++ [.lst (acc ++ (tk.map Val.thing).map Val.d)]) := by
  obtain ⟨y, e⟩ := inner_loop (fun k : Nat => D.int (k : Int)) (fun k : Nat => (Val.thing k).d) (fun k x0 x1 x2 S => by simp [isKind, Val.d, sz]) x0 x2 S tk acc x3 hz
  refine ⟨y, ?_⟩
  rw [List.map_map]
  exact e
theorem inner_vals (x0 x2 x3 : Option D) (S : Store) (sl : List Val) (acc : List D) (hz : acc.length + sl.length < 1000) : ∃ y, forL still (nameT 3) b__law_values_1 (sl.map Val.d) [x0, some (.ref S.length), x2, x3] (S ++ [.lst acc]) = .ok (.nx, [x0, some (.ref S.length), x2, y]) (S ++ [.lst (acc ++ sl.map Val.d)]) :=
  inner_loop Val.d Val.d (fun v x0 x1 x2 S => by cases v <;> simp [isKind, Val.d]) x0 x2 S sl acc x3 hz
theorem part_tup {x0 x2 x3 : Option D} {S : Store} {xs ys acc : List D} (h : ∀ x2 x3, ∃ y, forL still (nameT 3) b__law_values_1 xs [x0, some (.ref S.length), x2, x3] (S ++ [.lst acc]) = .ok (.nx, [x0, some (.ref S.length), x2, y]) (S ++ [.lst ys])) : ∃ y, b__law_values_0 [x0, some (.ref S.length), some (.tup xs), x3] (S ++ [.lst acc]) = .ok (.nx, [x0, some (.ref S.length), some (.tup xs), y]) (S ++ [.lst ys]) := by
  obtain ⟨y, e⟩ := h (some (.tup xs)) x3
  refine ⟨y, ?_⟩
  unfold b__law_values_0
  simp [isKind, e]
theorem part_at {x0 x3 : Option D} {S : Store} {d : D} (h : atOk d) (n : Nat) : b__law_values_0 [x0, some (.ref n), some d, x3] S = .ok (.nx, [x0, some (.ref n), some d, x3]) S := by
  unfold b__law_values_0
  rcases h with ⟨i, rfl⟩ | ⟨s, rfl⟩ <;> simp [isKind]
theorem values_eq {T : Th} {n : List Nat} (h : T.ok n) (S : Store) : ∃ X q, F__law_values [T.d] S = .ok (.ref q) (S ++ X) ∧ (S ++ X)[q]? = some (.lst (T.told.map Val.d)) := by
  obtain ⟨_, hz, hat⟩ := h
  cases T with
  | box v =>
    refine ⟨[.lst [v.d]], S.length, ?_, by simp [Th.told]⟩
    simp [F__law_values, m__law_values, N__law_values, startL, Th.d, atI, ixN, x_ix, sz]
  | fn own tk =>
    simp [Th.told] at hz
    obtain ⟨y, e⟩ := part_tup (x0 := some (Th.fn own tk).d) (x2 := none) (x3 := none) (S := S) (acc := []) fun x2 x3 => inner_ints (some (Th.fn own tk).d) x2 x3 S tk [] (by simp; omega)
    refine ⟨[.lst ((tk.map Val.thing).map Val.d)], S.length, ?_, by simp [Th.told]⟩
    have hc : cutD [D.str (Str.ofString "fun"), .int own, .tup (intsD tk)] (some 2) none = [.tup (intsD tk)] := by
      have := cutD_drop [D.str (Str.ofString "fun"), .int own, .tup (intsD tk)] 2
      simpa using this
    simp only [Th.d] at e
    simp [F__law_values, m__law_values, N__law_values, startL, Th.d, atI, ixN, x_ix, sz, hc, forL_cons, forL_nil, still_true, -List.map_map]
    rw [e]
    simp [-List.map_map, forL_nil, still_true]
  | lo own tk =>
    simp [Th.told] at hz
    obtain ⟨y, e⟩ := part_tup (x0 := some (Th.lo own tk).d) (x2 := none) (x3 := none) (S := S) (acc := []) fun x2 x3 => inner_ints (some (Th.lo own tk).d) x2 x3 S tk [] (by simp; omega)
    refine ⟨[.lst ((tk.map Val.thing).map Val.d)], S.length, ?_, by simp [Th.told]⟩
    have hc : cutD [D.str (Str.ofString "loop"), .int own, .tup (intsD tk)] (some 2) none = [.tup (intsD tk)] := by
      have := cutD_drop [D.str (Str.ofString "loop"), .int own, .tup (intsD tk)] 2
      simpa using this
    simp only [Th.d] at e
    simp [F__law_values, m__law_values, N__law_values, startL, Th.d, atI, ixN, x_ix, sz, hc, forL_cons, forL_nil, still_true, -List.map_map]
    rw [e]
    simp [-List.map_map, forL_nil, still_true]
  | wt own at_ sl bx tk =>
    simp [Th.told] at hz
    obtain ⟨D0, eD⟩ : ∃ D0, (Th.wt own at_ sl bx tk).d = D0 := ⟨_, rfl⟩
    obtain ⟨y2, e2⟩ := part_tup (x0 := some D0) (x2 := none) (x3 := none) (S := S) (acc := []) fun x2 x3 => inner_vals (some D0) x2 x3 S sl [] (by simp; omega)
    obtain ⟨y3, e3⟩ := part_tup (x0 := some D0) (x2 := none) (x3 := y2) (S := S) (acc := [] ++ sl.map Val.d) fun x2 x3 => inner_ints (some D0) x2 x3 S bx _ (by simp; omega)
    obtain ⟨y4, e4⟩ := part_tup (x0 := some D0) (x2 := none) (x3 := y3) (S := S) (acc := [] ++ sl.map Val.d ++ (bx.map Val.thing).map Val.d) fun x2 x3 => inner_ints (some D0) x2 x3 S tk _ (by simp; omega)
    have e1 := fun S' => part_at (x0 := some D0) (x3 := none) (S := S') hat S.length
    refine ⟨[.lst ([] ++ sl.map Val.d ++ (bx.map Val.thing).map Val.d ++ (tk.map Val.thing).map Val.d)], S.length, ?_, by simp [Th.told]⟩
    have hc : cutD [D.str (Str.ofString "waiting"), .int own, at_, .tup (sl.map Val.d), .tup (intsD bx), .tup (intsD tk)] (some 2) none = [at_, .tup (sl.map Val.d), .tup (intsD bx), .tup (intsD tk)] := by
      have := cutD_drop [D.str (Str.ofString "waiting"), .int own, at_, .tup (sl.map Val.d), .tup (intsD bx), .tup (intsD tk)] 2
      simpa using this
    simp only [F__law_values, m__law_values, N__law_values, x_bodyF, startL]
    rw [Th.d]
    subst eD
    simp only [Th.d] at e1 e2 e3 e4
    simp [atI, ixN, x_ix, sz, hc, forL_cons, forL_nil, still_true, -List.map_map, e1]
    simp [-List.map_map] at e2 e3 e4
    have e2 := e2
    rw [e2]
    simp [-List.map_map, forL_cons, still_true]
    rw [e3]
    simp [-List.map_map, forL_cons, still_true]
    rw [e4]
    simp [-List.map_map, forL_nil, still_true]
end K25

set_option Elab.async false
set_option linter.all false
set_option maxRecDepth 100000
set_option autoImplicit false
namespace K25
open PySem PySem.Spec L2 ML
/-! ### the heap -/
abbrev Tr := Nat × Th × Nat
def tk (p : Tr) : Nat := p.1
def keys (ps : List Tr) : List Nat := ps.map tk
def rD (p : Tr) : D := .ref p.2.2
def tD (p : Tr) : D := p.2.1.d
def hpC (d n : Nat) : Cell := .ins 7 [(Str.ofString "there", .ref d), (Str.ofString "count", .int (n : Int))]
structure HeapAt (S : Store) (h d n : Nat) (ps : List Tr) : Prop where
  h1 : S[h]? = some (hpC d n)
  h2 : S[d]? = some (.dct (dK tk rD ps))
  h3 : ∀ p ∈ ps, S[p.2.2]? = some p.2.1.cell
theorem HeapAt.app {S : Store} {h d n : Nat} {ps : List Tr} (H : HeapAt S h d n ps) (X : Store) : HeapAt (S ++ X) h d n ps := ⟨at_app H.h1, at_app H.h2, fun p hp => at_app (H.h3 p hp)⟩
def sc (ps : List Tr) (k : Nat) : List Nat := match atK tk ps k with
  | some p => p.2.1.succ
  | none => []
/-! ### values as data -/
def Val.py : Val → PyData
  | .non => .none
  | .thing k => .tuple [.str (Str.ofString "thing"), .int (k : Int)]
  | .num i => .tuple [.str (Str.ofString "number"), .int i]
theorem toPy_val (S : Store) (k : Nat) (v : Val) : toPy S (k + 1) v.d = some v.py := by
  cases v <;> simp [Val.d, Val.py]
theorem lay_val (v : Val) : v.py.canLay0 = true := by
  cases v with
  | non => rfl
  | thing k =>
    have : (PyData.str (Str.ofString "thing")).canLay0 = true := by rw [PyData.canLay0]; decide +kernel
    rw [Val.py, PyData.canLay0, PyData.canLayAll0, this]
    rfl
  | num i =>
    have : (PyData.str (Str.ofString "number")).canLay0 = true := by rw [PyData.canLay0]; decide +kernel
    rw [Val.py, PyData.canLay0, PyData.canLayAll0, this]
    rfl
theorem lay_vals : ∀ vs : List Val, PyData.canLayAll0 (vs.map Val.py) = true
  | [] => rfl
  | v :: vs => by rw [List.map_cons, PyData.canLayAll0, lay_val, lay_vals vs]; rfl
theorem toPy_vals {S : Store} {n : Nat} {vs : List Val} (h : S[n]? = some (.lst (vs.map Val.d))) (k : Nat) : toPy S (k + 2) (.ref n) = some (.list (vs.map Val.py)) := by
  rw [toPy_ref h, mapO_some (f := toPy S (k + 1)) (g := Val.d) (h := Val.py) (toPy_val S k)]
  rfl
/-- while todo != [] -/
theorem todo_ne {S : Store} {n : Nat} {vs : List Val} (h : S[n]? = some (.lst (vs.map Val.d))) : neD (.ref n) (.ref S.length) (S ++ [.lst []]) = .ok (!vs.isEmpty) (S ++ [.lst []]) := by
  have e : toPy (S ++ [.lst []]) 64 (.ref S.length) = some (.list []) := by
    rw [toPy_ref (xs := []) (by simp)]
    rfl
  rw [neD_of (toPy_vals (at_app h) 62) e (by rw [PyData.canLay0]; exact lay_vals vs) rfl, PyData.eqv, eqvAll_nil]
  simp
/-- what comes out of a value's two parts -/
theorem val_parts (v : Val) (S : Store) : (v = .non ∧ isNotD v.d .non S = .ok false S) ∨ (isNotD v.d .non S = .ok true S ∧ ixO S v.d (.int 0) = some (.str (Str.ofString "number")) ∧ v.n = []) ∨ ∃ k, v = .thing k ∧ isNotD v.d .non S = .ok true S ∧ ixO S v.d (.int 0) = some (.str (Str.ofString "thing")) ∧ ixO S v.d (.int 1) = some (.int (k : Int)) := by
  cases v with
  | non => exact .inl ⟨rfl, rfl⟩
  | num i => exact .inr (.inl ⟨rfl, rfl, rfl⟩)
  | thing k => exact .inr (.inr ⟨k, rfl, rfl, rfl, rfl⟩)
/-! ### one turn of the program's walk -/
theorem pbody_skip {S Z : Store} {h : Nat} {xa x4 : Option D} {seen : List Nat} {td : List Val} {v : Val} (hv : ∀ k, v = .thing k → k ∈ seen) :
    b_Heap_reached_0 [some (.ref h), xa, some (.ref S.length), some (.ref (S.length + 1)), x4] (S ++ .dct (seenD seen) :: .lst ((td ++ [v]).map Val.d) :: Z) = .ok (.nx, [some (.ref h), xa, some (.ref S.length), some (.ref (S.length + 1)), some v.d]) (S ++ .dct (seenD seen) :: .lst (td.map Val.d) :: Z) := by
  have e0 : lstAt (S ++ .dct (seenD seen) :: .lst ((td ++ [v]).map Val.d) :: Z) (S.length + 1) = some (td.map Val.d ++ [v.d]) := lstAt_of (by rw [get_mid1]; simp)
  have e1 := x_pop e0
  rw [set_mid1] at e1
  unfold b_Heap_reached_0
  simp [e0, e1, -List.map_append]
  rcases val_parts v (S ++ .dct (seenD seen) :: .lst (td.map Val.d) :: Z) with ⟨_, h1⟩ | ⟨h1, h2, _⟩ | ⟨k, rfl, h1, h2, h3⟩
  · simp [h1]
  · simp [h1, x_ix, h2]
  · have h4 := x_ninDict (S := S ++ .dct (seenD seen) :: .lst (td.map Val.d) :: Z) (n := S.length) (k := k) (get_mid _ _ _)
    rw [seen_look] at h4
    simp [h1, x_ix, h2, h3, h4, hv k rfl]
theorem pbody_take {S Z : Store} {h : Nat} {xa x4 : Option D} {seen : List Nat} {td : List Val} {k d n : Nat} {ps : List Tr} {p : Tr} (HH : HeapAt S h d n ps) (hp : atK tk ps k = some p) (hpm : p ∈ ps) (hz : p.2.1.told.length ≤ 20) (hn : k ∉ seen) (hs : seen.length < 1000000) (ht : td.length < 1000000) :
    ∃ Z', b_Heap_reached_0 [some (.ref h), xa, some (.ref S.length), some (.ref (S.length + 1)), x4] (S ++ .dct (seenD seen) :: .lst ((td ++ [Val.thing k]).map Val.d) :: Z) = .ok (.nx, [some (.ref h), xa, some (.ref S.length), some (.ref (S.length + 1)), some (Val.thing k).d]) (S ++ .dct (seenD (seen ++ [k])) :: .lst ((td ++ p.2.1.held).map Val.d) :: Z') := by
  have e0 : lstAt (S ++ .dct (seenD seen) :: .lst ((td ++ [Val.thing k]).map Val.d) :: Z) (S.length + 1) = some (td.map Val.d ++ [(Val.thing k).d]) := lstAt_of (by rw [get_mid1]; simp)
  have e1 := x_pop e0
  rw [set_mid1] at e1
  have h1 : ∀ S', isNotD (Val.thing k).d .non S' = .ok true S' := fun _ => rfl
  have h2 : ∀ S', ixO S' (Val.thing k).d (.int 0) = some (.str (Str.ofString "thing")) := fun _ => rfl
  have h3 : ∀ S', ixO S' (Val.thing k).d (.int 1) = some (.int (k : Int)) := fun _ => rfl
  have h4 := x_ninDict (S := S ++ .dct (seenD seen) :: .lst (td.map Val.d) :: Z) (n := S.length) (k := k) (get_mid _ _ _)
  rw [seen_look] at h4
  have hsl : (seenD seen).length = seen.length := by simp [seenD]
  have h5 := x_setDict (S := S ++ .dct (seenD seen) :: .lst (td.map Val.d) :: Z) (n := S.length) (k := k) (v := .bl true) (get_mid _ _ _) (by rw [hsl]; omega)
  rw [set_mid, seen_put hn] at h5
  obtain ⟨g1, g2, g4⟩ := HH
  have g6 := g4 p hpm
  have g1 := insAt_app (T := .dct (seenD (seen ++ [k])) :: .lst (td.map Val.d) :: Z) g1
  have g7 : ixO (S ++ .dct (seenD (seen ++ [k])) :: .lst (td.map Val.d) :: Z) (.ref d) (.int (k : Int)) = some (.ref p.2.2) := by
    rw [x_ixDict (at_app g2), dK_look, hp]
    rfl
  obtain ⟨c, fs, G, X, q, p1, p2, p3, p4, p5⟩ := holds_eq (S := S ++ .dct (seenD (seen ++ [k])) :: .lst (td.map Val.d) :: Z) (at_app g6) hz
  have g8 : insAt (S ++ .dct (seenD (seen ++ [k])) :: .lst (td.map Val.d) :: Z) p.2.2 = some (c, fs) := insAt_of (by rw [at_app g6, p1])
  have e2 : lstAt (S ++ .dct (seenD (seen ++ [k])) :: .lst (td.map Val.d) :: Z) (S.length + 1) = some (td.map Val.d) := lstAt_of (get_mid1 _ _ _ _)
  have e3 : lstAt (S ++ .dct (seenD (seen ++ [k])) :: .lst (td.map Val.d) :: Z ++ X) (S.length + 1) = some (td.map Val.d) := lstAt_of (at_app (get_mid1 _ _ _ _))
  have hh := held_len p.2.1
  have e4 := x_extend e3 (lstAt_of p5) (by simp; omega)
  rw [List.append_assoc, List.cons_append, List.cons_append, set_mid1] at e4
  rw [List.append_assoc, List.cons_append, List.cons_append] at p4
  refine ⟨Z ++ X, ?_⟩
  unfold b_Heap_reached_0
  simp [e0, e1, -List.map_append, h1, h2, h3, x_ix, h4, hn, h5]
  simp [-List.map_append, h3, x_ix, e2, g1, List.lookup, beq_of, g7, R.noex, g8, p2]
  simp only [holdT, x_tblAt0, x_tblAtS] at p3
  rw [p3]
  simp [-List.map_append, p4, e4]
  simp
theorem nums_mem_app {a b : List Val} {x : Nat} : x ∈ nums (a ++ b) ↔ x ∈ nums a ∨ x ∈ nums b := by rw [nums_app, List.mem_append]
/-- the program's walk -/
theorem ploop {ps : List Tr} {S : Store} {h d n : Nat} (HH : HeapAt S h d n ps) (hok : ∀ p ∈ ps, p.2.1.ok (keys ps)) (hn : (keys ps).length ≤ 2000) (vs : List Nat) (xa : Option D) : ∀ (fuel : Nat) (seen : List Nat) (todo : List Val) (Z : Store) (x4 : Option D),
    CI (sc ps) vs seen (nums todo) → (∀ k ∈ nums todo, k ∈ keys ps) → (∀ k ∈ seen, k ∈ keys ps) → seen.length + un (keys ps) seen ≤ (keys ps).length → todo.length + 1 + 21 * un (keys ps) seen ≤ fuel → fuel ≤ 1000000 →
    ∃ seen' Z' y, whileS (cmpM neD (varE 3) (allocE (lstN (nilA)))) b_Heap_reached_0 fuel [some (.ref h), xa, some (.ref S.length), some (.ref (S.length + 1)), x4] (S ++ .dct (seenD seen) :: .lst (todo.map Val.d) :: Z)
      = .ok (.nx, [some (.ref h), xa, some (.ref S.length), some (.ref (S.length + 1)), y]) (S ++ .dct (seenD seen') :: .lst [] :: Z') ∧ CI (sc ps) vs seen' []
  | 0, _, todo, _, _, _, _, _, _, h, _ => by omega
  | fuel + 1, seen, todo, Z, x4, hC, ht, hs, hl, hf, hF => by
    have hc := todo_ne (S := S ++ .dct (seenD seen) :: .lst (todo.map Val.d) :: Z) (n := S.length + 1) (vs := todo) (get_mid1 _ _ _ _)
    have hc2 : (cmpM neD (varE 3) (allocE (lstN (nilA)))) [some (.ref h), xa, some (.ref S.length), some (.ref (S.length + 1)), x4] (S ++ .dct (seenD seen) :: .lst (todo.map Val.d) :: Z) = .ok (!todo.isEmpty) (S ++ .dct (seenD seen) :: .lst (todo.map Val.d) :: (Z ++ [.lst []])) := by
      rw [List.append_assoc, List.cons_append, List.cons_append] at hc
      simp [sz]
      simpa using hc
    rw [x_while, hc2, R.bind_ok]
    cases e : todo with
    | nil =>
      subst e
      exact ⟨seen, Z ++ [.lst []], x4, by simp, hC⟩
    | cons v0 r0 =>
      have ne : todo ≠ [] := by rw [e]; simp
      obtain ⟨td, v, etd⟩ : ∃ td v, todo = td ++ [v] := ⟨todo.dropLast, todo.getLast ne, (List.dropLast_concat_getLast ne).symm⟩
      rw [← e, etd]
      subst etd
      have hm : ∀ x, x ∈ nums (td ++ [v]) ↔ x ∈ nums td ∨ x ∈ v.n := fun x => by rw [nums_mem_app]; simp [nums]
      have hem : (!(td ++ [v]).isEmpty) = true := by cases td <;> rfl
      rw [hem, if_pos rfl]
      rw [List.length_append, List.length_singleton] at hf
      by_cases hk : ∃ k, v = .thing k ∧ k ∉ seen
      · obtain ⟨k, rfl, hks⟩ := hk
        have hkn : k ∈ keys ps := ht k ((hm k).mpr (.inr (by simp [Val.n])))
        obtain ⟨p, hp, hpm, hpk⟩ := atK_mem hkn
        have hTo := hok p hpm
        obtain ⟨Z', eb⟩ := pbody_take (xa := xa) (x4 := x4) (Z := Z ++ [.lst []]) HH hp hpm hTo.2.1 hks (by omega) (td := td) (by omega)
        have hu := un_take (dom := keys ps) hkn hks
        have hh := held_len p.2.1
        have hscc : sc ps k = p.2.1.succ := by unfold sc; rw [hp]
        have hm2 : ∀ x, x ∈ nums (td ++ p.2.1.held) ↔ x ∈ nums td ∨ x ∈ p.2.1.succ := fun x => by rw [nums_mem_app, nums_held]
        obtain ⟨seen', Z2, y, ew, hC'⟩ := ploop HH hok hn vs xa fuel (seen ++ [k]) (td ++ p.2.1.held) Z' (some (Val.thing k).d)
          (hC.take ((hm k).mpr (.inr (by simp [Val.n]))) hks (fun x hx => ((hm x).mp hx).elim (fun q => .inr ((hm2 x).mpr (.inl q))) fun q => .inl (by simpa [Val.n] using q)) (fun x hx => ((hm2 x).mp hx).elim (fun q => .inl ((hm x).mpr (.inl q))) fun q => .inr (by rw [hscc]; exact q)) fun x hx => (hm2 x).mpr (.inr (by rw [← hscc]; exact hx)))
          (fun x hx => ((hm2 x).mp hx).elim (fun q => ht x ((hm x).mpr (.inl q))) fun q => hTo.1 x q)
          (fun x hx => by
            rcases List.mem_append.mp hx with q | q
            · exact hs x q
            · simp at q; subst q; exact hkn)
          (by rw [List.length_append, List.length_singleton]; omega) (by rw [List.length_append]; have := hTo.2.1; omega) (by omega)
        refine ⟨seen', Z2, y, ?_, hC'⟩
        rw [eb, R.bind_ok, x_again_nx]
        exact ew
      · have hk : ∀ k, v = .thing k → k ∈ seen := fun k e => by
          apply Classical.byContradiction
          intro q
          exact hk ⟨k, e, q⟩
        have eb := pbody_skip (h := h) (xa := xa) (x4 := x4) (Z := Z ++ [.lst []]) (S := S) (td := td) hk
        obtain ⟨seen', Z2, y, ew, hC'⟩ := ploop HH hok hn vs xa fuel seen td (Z ++ [.lst []]) (some v.d)
          (hC.skip (fun x hx => ((hm x).mp hx).elim .inl fun q => .inr (by
            cases v with
            | thing k => simp [Val.n] at q; subst q; exact hk _ rfl
            | non => simp [Val.n] at q
            | num i => simp [Val.n] at q)) fun x hx => (hm x).mpr (.inl hx))
          (fun x hx => ht x ((hm x).mpr (.inl hx))) hs hl (by omega) (by omega)
        refine ⟨seen', Z2, y, ?_, hC'⟩
        rw [eb, R.bind_ok, x_again_nx]
        exact ew
theorem reached_eq {ps : List Tr} {S : Store} {h d n a : Nat} {vs : List Val} (HH : HeapAt S h d n ps) (hok : ∀ p ∈ ps, p.2.1.ok (keys ps)) (hn : (keys ps).length ≤ 2000) (ha : S[a]? = some (.lst (vs.map Val.d))) (hv : ∀ k ∈ nums vs, k ∈ keys ps) (hvl : vs.length ≤ 1000) :
    ∃ X q L, F_Heap_reached [.ref h, .ref a] S = .ok (.ref q) (S ++ X) ∧ (S ++ X)[q]? = some (.lst (intsD L)) ∧ S.length ≤ q ∧ IsCl (sc ps) (nums vs) L := by
  have hu := un_le (keys ps) []
  obtain ⟨seen', Z', y, ew, hC⟩ := ploop HH hok hn (nums vs) (some (.ref a)) FU [] vs [] none CI.start hv (fun k hk => by simp at hk) (by simpa using hu) (by show _ ≤ 1000000; omega) (Nat.le_refl _)
  have hl := x_listLst (S := S ++ [Cell.dct []]) (n := a) (lstAt_of (at_app ha))
  have e0 : (S ++ Cell.dct (seenD []) :: Cell.lst (vs.map Val.d) :: []) = S ++ [Cell.dct [], Cell.lst (vs.map Val.d)] := rfl
  rw [e0] at ew
  have hk := x_listDict (S := S ++ Cell.dct (seenD seen') :: Cell.lst [] :: Z') (n := S.length) (get_mid _ _ _)
  rw [seen_keys] at hk
  have hq := sortL_ints seen' (S ++ Cell.dct (seenD seen') :: Cell.lst [] :: Z')
  refine ⟨Cell.dct (seenD seen') :: Cell.lst [] :: (Z' ++ [.lst (intsD (seen'.mergeSort fun a b => decide (a ≤ b)))]), (S ++ Cell.dct (seenD seen') :: Cell.lst [] :: Z').length, _, ?_, ?_, by simp, hC.cl⟩
  · simp [F_Heap_reached, m_Heap_reached, N_Heap_reached, startL, hl]
    rw [ew]
    simp [hk, hq]
  · have := at_end (S := S ++ Cell.dct (seenD seen') :: Cell.lst [] :: Z') (c := .lst (intsD (seen'.mergeSort fun a b => decide (a ≤ b))))
    simpa using this
/-! ### the law's walk -/
theorem lbody_skip {S Z : Store} {t j : Nat} {xa x4 : Option D} {seen : List Nat} {td : List Val} {v : Val} (hj : Z[j]? = some (.lst ((v :: td).map Val.d))) (hv : ∀ k, v = .thing k → k ∈ seen) :
    b__law_reached_0 [some (.ref t), xa, some (.ref S.length), some (.ref (S.length + 1 + j)), x4] (S ++ .lst (intsD seen) :: Z) = .ok (.nx, [some (.ref t), xa, some (.ref S.length), some (.ref (S.length + 1 + j)), some v.d]) (S ++ .lst (intsD seen) :: Z.set j (.lst (td.map Val.d))) := by
  have g : ∀ Y : Store, (S ++ .lst (intsD seen) :: Y)[S.length + 1 + j]? = Y[j]? := fun Y => by
    rw [List.getElem?_append_right (by omega), show S.length + 1 + j - S.length = j + 1 by omega]
    simp
  have e0 : lstAt (S ++ .lst (intsD seen) :: Z) (S.length + 1 + j) = some (v.d :: td.map Val.d) := lstAt_of (by rw [g, hj]; rfl)
  have e1 := x_popAt0 e0
  have e2 : (S ++ Cell.lst (intsD seen) :: Z).set (S.length + 1 + j) (.lst (td.map Val.d)) = S ++ .lst (intsD seen) :: Z.set j (.lst (td.map Val.d)) := by
    rw [List.set_append_right _ _ (by omega), show S.length + 1 + j - S.length = j + 1 by omega]
    rfl
  rw [e2] at e1
  unfold b__law_reached_0
  simp [e0, e1]
  rcases val_parts v (S ++ .lst (intsD seen) :: Z.set j (.lst (td.map Val.d))) with ⟨_, h1⟩ | ⟨h1, h2, _⟩ | ⟨k, rfl, h1, h2, h3⟩
  · simp [h1]
  · simp [h1, x_ix, h2]
  · have h4 := x_ninInts (S := S ++ .lst (intsD seen) :: Z.set j (.lst (td.map Val.d))) (n := S.length) (k := k) (l := seen) (lstAt_of (get_mid _ _ _))
    simp [h1, x_ix, h2, h3, h4, hv k rfl]
theorem lbody_take {S Z : Store} {t j k : Nat} {n : List Nat} {xa x4 : Option D} {seen : List Nat} {td : List Val} {ps : List Tr} {p : Tr} (ht : S[t]? = some (.dct (dK tk tD ps))) (hp : atK tk ps k = some p) (hok : p.2.1.ok n) (hn : k ∉ seen) (hs : seen.length < 1000000) (htd : td.length < 1000000) (hj : Z[j]? = some (.lst ((Val.thing k :: td).map Val.d))) :
    ∃ Z' j', b__law_reached_0 [some (.ref t), xa, some (.ref S.length), some (.ref (S.length + 1 + j)), x4] (S ++ .lst (intsD seen) :: Z) = .ok (.nx, [some (.ref t), xa, some (.ref S.length), some (.ref (S.length + 1 + j')), some (Val.thing k).d]) (S ++ .lst (intsD (seen ++ [k])) :: Z') ∧ Z'[j']? = some (.lst ((td ++ p.2.1.told).map Val.d)) := by
  have g : ∀ (c : Cell) (Y : Store), (S ++ c :: Y)[S.length + 1 + j]? = Y[j]? := fun c Y => by
    rw [List.getElem?_append_right (by omega), show S.length + 1 + j - S.length = j + 1 by omega]
    simp
  have e0 : lstAt (S ++ .lst (intsD seen) :: Z) (S.length + 1 + j) = some ((Val.thing k).d :: td.map Val.d) := lstAt_of (by rw [g, hj]; rfl)
  have e1 := x_popAt0 e0
  have e2 : (S ++ Cell.lst (intsD seen) :: Z).set (S.length + 1 + j) (.lst (td.map Val.d)) = S ++ .lst (intsD seen) :: Z.set j (.lst (td.map Val.d)) := by
    rw [List.set_append_right _ _ (by omega), show S.length + 1 + j - S.length = j + 1 by omega]
    rfl
  rw [e2] at e1
  have h1 : ∀ S', isNotD (Val.thing k).d .non S' = .ok true S' := fun _ => rfl
  have h2 : ∀ S', ixO S' (Val.thing k).d (.int 0) = some (.str (Str.ofString "thing")) := fun _ => rfl
  have h3 : ∀ S', ixO S' (Val.thing k).d (.int 1) = some (.int (k : Int)) := fun _ => rfl
  have h4 := x_ninInts (S := S ++ .lst (intsD seen) :: Z.set j (.lst (td.map Val.d))) (n := S.length) (k := k) (l := seen) (lstAt_of (get_mid _ _ _))
  have e3 : lstAt (S ++ .lst (intsD seen) :: Z.set j (.lst (td.map Val.d))) S.length = some (intsD seen) := lstAt_of (get_mid _ _ _)
  have e4 := x_append (d := .int (k : Int)) e3 (by simp [intsD]; omega)
  have e5 : intsD seen ++ [D.int (k : Int)] = intsD (seen ++ [k]) := by simp [intsD]
  rw [set_mid, e5] at e4
  have hj2 : j < Z.length := (List.getElem?_eq_some_iff.mp hj).1
  have e6 : (S ++ .lst (intsD (seen ++ [k])) :: Z.set j (.lst (td.map Val.d)))[t]? = some (.dct (dK tk tD ps)) := at_app ht
  have e7 : ixO (S ++ .lst (intsD (seen ++ [k])) :: Z.set j (.lst (td.map Val.d))) (.ref t) (.int (k : Int)) = some p.2.1.d := by
    rw [x_ixDict e6, dK_look, hp]
    rfl
  obtain ⟨X, q, p1, p2⟩ := values_eq hok (S ++ .lst (intsD (seen ++ [k])) :: Z.set j (.lst (td.map Val.d)))
  have e8 : (S ++ .lst (intsD (seen ++ [k])) :: Z.set j (.lst (td.map Val.d)) ++ X)[S.length + 1 + j]? = some (.lst (td.map Val.d)) := at_app (by rw [g, List.getElem?_set_self hj2])
  have hz := hok.2.1
  have e9 := x_addR e8 p2 (by simp; omega)
  refine ⟨Z.set j (.lst (td.map Val.d)) ++ X ++ [.lst ((td ++ p.2.1.told).map Val.d)], Z.length + X.length, ?_, by simp⟩
  unfold b__law_reached_0
  simp [e0, e1, h1, h2, h3, x_ix, h4, hn, e3, e4]
  simp at p1 e9
  simp [h3, e7, p1, e9]
  omega
/-- the law's walk -/
theorem lloop {ps : List Tr} {S : Store} {t : Nat} (ht : S[t]? = some (.dct (dK tk tD ps))) (hok : ∀ p ∈ ps, p.2.1.ok (keys ps)) (hn : (keys ps).length ≤ 2000) (vs : List Nat) (xa : Option D) : ∀ (fuel : Nat) (seen : List Nat) (todo : List Val) (Z : Store) (j : Nat) (x4 : Option D), Z[j]? = some (.lst (todo.map Val.d)) →
    CI (sc ps) vs seen (nums todo) → (∀ k ∈ nums todo, k ∈ keys ps) → (∀ k ∈ seen, k ∈ keys ps) → seen.length + un (keys ps) seen ≤ (keys ps).length → todo.length + 1 + 21 * un (keys ps) seen ≤ fuel → fuel ≤ 1000000 →
    ∃ seen' Z' j' y, whileS (cmpM neD (varE 3) (allocE (lstN (nilA)))) b__law_reached_0 fuel [some (.ref t), xa, some (.ref S.length), some (.ref (S.length + 1 + j)), x4] (S ++ .lst (intsD seen) :: Z)
      = .ok (.nx, [some (.ref t), xa, some (.ref S.length), some (.ref (S.length + 1 + j')), y]) (S ++ .lst (intsD seen') :: Z') ∧ CI (sc ps) vs seen' []
  | 0, _, todo, _, _, _, _, _, _, _, _, h, _ => by omega
  | fuel + 1, seen, todo, Z, j, x4, hj, hC, hto, hs, hl, hf, hF => by
    have g : ∀ (c : Cell) (Y : Store), (S ++ c :: Y)[S.length + 1 + j]? = Y[j]? := fun c Y => by
      rw [List.getElem?_append_right (by omega), show S.length + 1 + j - S.length = j + 1 by omega]
      simp
    have hc := todo_ne (S := S ++ .lst (intsD seen) :: Z) (n := S.length + 1 + j) (vs := todo) (by rw [g, hj])
    have hc2 : (cmpM neD (varE 3) (allocE (lstN (nilA)))) [some (.ref t), xa, some (.ref S.length), some (.ref (S.length + 1 + j)), x4] (S ++ .lst (intsD seen) :: Z) = .ok (!todo.isEmpty) (S ++ .lst (intsD seen) :: (Z ++ [.lst []])) := by
      rw [List.append_assoc, List.cons_append] at hc
      simp [sz]
      simpa using hc
    rw [x_while, hc2, R.bind_ok]
    have hj2 : (Z ++ [.lst []])[j]? = some (.lst (todo.map Val.d)) := at_app hj
    cases e : todo with
    | nil =>
      subst e
      exact ⟨seen, Z ++ [.lst []], j, x4, by simp, hC⟩
    | cons v td =>
      subst e
      have hm : ∀ x, x ∈ nums (v :: td) ↔ x ∈ v.n ∨ x ∈ nums td := fun x => by simp [nums]
      simp only [List.isEmpty_cons, Bool.not_false, if_true]
      rw [List.length_cons] at hf
      by_cases hk : ∃ k, v = .thing k ∧ k ∉ seen
      · obtain ⟨k, rfl, hks⟩ := hk
        have hkn : k ∈ keys ps := hto k ((hm k).mpr (.inl (by simp [Val.n])))
        obtain ⟨p, hp, hpm, hpk⟩ := atK_mem hkn
        have hTo := hok p hpm
        obtain ⟨Z', j', eb, hj'⟩ := lbody_take (xa := xa) (x4 := x4) ht hp hTo hks (by omega) (td := td) (by omega) hj2
        have hu := un_take (dom := keys ps) hkn hks
        have hscc : sc ps k = p.2.1.succ := by unfold sc; rw [hp]
        have hm2 : ∀ x, x ∈ nums (td ++ p.2.1.told) ↔ x ∈ nums td ∨ x ∈ p.2.1.succ := fun x => by rw [nums_mem_app]; rfl
        obtain ⟨seen', Z2, j2, y, ew, hC'⟩ := lloop ht hok hn vs xa fuel (seen ++ [k]) (td ++ p.2.1.told) Z' j' (some (Val.thing k).d) hj'
          (hC.take ((hm k).mpr (.inl (by simp [Val.n]))) hks (fun x hx => ((hm x).mp hx).elim (fun q => .inl (by simpa [Val.n] using q)) (fun q => .inr ((hm2 x).mpr (.inl q)))) (fun x hx => ((hm2 x).mp hx).elim (fun q => .inl ((hm x).mpr (.inr q))) fun q => .inr (by rw [hscc]; exact q)) fun x hx => (hm2 x).mpr (.inr (by rw [← hscc]; exact hx)))
          (fun x hx => ((hm2 x).mp hx).elim (fun q => hto x ((hm x).mpr (.inr q))) fun q => hTo.1 x q)
          (fun x hx => by
            rcases List.mem_append.mp hx with q | q
            · exact hs x q
            · simp at q; subst q; exact hkn)
          (by rw [List.length_append, List.length_singleton]; omega) (by rw [List.length_append]; have := hTo.2.1; omega) (by omega)
        refine ⟨seen', Z2, j2, y, ?_, hC'⟩
        rw [eb, R.bind_ok, x_again_nx]
        exact ew
      · have hk : ∀ k, v = .thing k → k ∈ seen := fun k e => by
          apply Classical.byContradiction
          intro q
          exact hk ⟨k, e, q⟩
        have eb := lbody_skip (t := t) (xa := xa) (x4 := x4) (S := S) hj2 hk
        have hlt : j < (Z ++ [Cell.lst []]).length := (List.getElem?_eq_some_iff.mp hj2).1
        obtain ⟨seen', Z2, j2, y, ew, hC'⟩ := lloop ht hok hn vs xa fuel seen td ((Z ++ [Cell.lst []]).set j (Cell.lst (td.map Val.d))) j (some v.d) (by rw [List.getElem?_set_self hlt])
          (hC.skip (fun x hx => ((hm x).mp hx).elim (fun q => .inr (by
            cases v with
            | thing k => simp [Val.n] at q; subst q; exact hk _ rfl
            | non => simp [Val.n] at q
            | num i => simp [Val.n] at q)) .inl) fun x hx => (hm x).mpr (.inr hx))
          (fun x hx => hto x ((hm x).mpr (.inr hx))) hs hl (by omega) (by omega)
        refine ⟨seen', Z2, j2, y, ?_, hC'⟩
        rw [eb, R.bind_ok, x_again_nx]
        exact ew
theorem lreached_eq {ps : List Tr} {S : Store} {t a : Nat} {vs : List Val} (ht : S[t]? = some (.dct (dK tk tD ps))) (hok : ∀ p ∈ ps, p.2.1.ok (keys ps)) (hn : (keys ps).length ≤ 2000) (ha : S[a]? = some (.lst (vs.map Val.d))) (hv : ∀ k ∈ nums vs, k ∈ keys ps) (hvl : vs.length ≤ 1000) :
    ∃ X q L, F__law_reached [.ref t, .ref a] S = .ok (.ref q) (S ++ X) ∧ (S ++ X)[q]? = some (.lst (intsD L)) ∧ S.length ≤ q ∧ IsCl (sc ps) (nums vs) L := by
  have hu := un_le (keys ps) []
  obtain ⟨seen', Z', j', y, ew, hC⟩ := lloop ht hok hn (nums vs) (some (.ref a)) FU [] vs [.lst (vs.map Val.d)] 0 none rfl CI.start hv (fun k hk => by simp at hk) (by simpa using hu) (by show _ ≤ 1000000; omega) (Nat.le_refl _)
  have hl := x_listLst (S := S ++ [Cell.lst []]) (n := a) (lstAt_of (at_app ha))
  have e0 : (S ++ Cell.lst (intsD []) :: [Cell.lst (vs.map Val.d)]) = S ++ [Cell.lst [], Cell.lst (vs.map Val.d)] := rfl
  rw [e0] at ew
  have hk : lstAt (S ++ Cell.lst (intsD seen') :: Z') S.length = some (intsD seen') := lstAt_of (get_mid _ _ _)
  have hq := sortL_ints seen' (S ++ Cell.lst (intsD seen') :: Z')
  refine ⟨Cell.lst (intsD seen') :: (Z' ++ [.lst (intsD (seen'.mergeSort fun a b => decide (a ≤ b)))]), (S ++ Cell.lst (intsD seen') :: Z').length, _, ?_, ?_, by simp, hC.cl⟩
  · simp [F__law_reached, m__law_reached, N__law_reached, startL, hl, sz]
    simp at ew
    rw [ew]
    simp [hk, hq]
  · have := at_end (S := S ++ Cell.lst (intsD seen') :: Z') (c := .lst (intsD (seen'.mergeSort fun a b => decide (a ≤ b))))
    simpa using this
end K25

set_option Elab.async false
set_option linter.all false
set_option maxRecDepth 100000
set_option autoImplicit false
namespace K25
open PySem PySem.Spec L2 ML
/-! ### put, change, numbers, thing -/
theorem cell_lst (T : Th) (xs : List D) : T.cell ≠ .lst xs := by cases T <;> exact fun h => by cases h
theorem cell_dct (T : Th) (xs : List (Key × D)) : T.cell ≠ .dct xs := by cases T <;> exact fun h => by cases h
theorem cell_hp (T : Th) (d n : Nat) : T.cell ≠ hpC d n := by cases T <;> exact fun h => by cases h
theorem HeapAt.set {S : Store} {h d n q : Nat} {ps : List Tr} {c c' : Cell} (H : HeapAt S h d n ps) (hq : S[q]? = some c) (h1 : q ≠ h) (h2 : q ≠ d) (hc : ∀ T : Th, T.cell ≠ c) : HeapAt (S.set q c') h d n ps :=
  ⟨by rw [get_set_ne h1]; exact H.h1, by rw [get_set_ne h2]; exact H.h2, fun p hp => by
    have := H.h3 p hp
    have ne : q ≠ p.2.2 := by
      rintro rfl
      rw [hq] at this
      exact hc _ (Option.some.inj this).symm
    rw [get_set_ne ne]; exact this⟩
theorem HeapAt.ins {S : Store} {h d n : Nat} {ps : List Tr} (H : HeapAt S h d n ps) : insAt S h = some (7, [(Str.ofString "there", .ref d), (Str.ofString "count", .int (n : Int))]) := insAt_of H.h1
theorem sort_rising {l : List Nat} (h : l.Pairwise (· < ·)) : l.mergeSort (fun a b => decide (a ≤ b)) = l :=
  rising_eq (sort_nodup (h.imp fun h => Nat.ne_of_lt h)) h fun k => (List.mergeSort_perm l _).mem_iff
theorem numbers_eq {S : Store} {h d n : Nat} {ps : List Tr} (H : HeapAt S h d n ps) (hr : (keys ps).Pairwise (· < ·)) : F_Heap_numbers [.ref h] S = .ok (.ref S.length) (S ++ [.lst (intsD (keys ps))]) := by
  have e1 := x_listDict H.h2
  rw [dK_keys] at e1
  have e2 := sortL_ints (keys ps) S
  rw [sort_rising hr] at e2
  have e3 := H.ins
  have e1 : listV [.ref d] S = .ok (intsD (keys ps)) S := e1
  simp [F_Heap_numbers, m_Heap_numbers, N_Heap_numbers, startL, e3, List.lookup, beq_of, e1, e2]
theorem put_eq {S : Store} {h d n : Nat} {ps : List Tr} (H : HeapAt S h d n ps) (hn : n ∉ keys ps) (hz : ps.length < 1000000) (hd : h ≠ d) (T : Th) :
    ∃ S', F_Heap_put [.ref h, T.d] S = .ok (.int (n : Int)) S' ∧ HeapAt S' h d (n + 1) (ps ++ [(n, T, S.length)]) ∧ S'.length = S.length + 1 ∧ ∀ i c, S[i]? = some c → i ≠ h → i ≠ d → S'[i]? = some c := by
  have e1 := thing_of_eq T S
  have e2 := (H.app [T.cell]).ins
  have k2 : (S ++ [T.cell])[d]? = some (.dct (dK tk rD ps)) := at_app H.h2
  have e3 := x_setDict (S := S ++ [T.cell]) (n := d) (k := n) (v := .ref S.length) k2 (by rw [dK_len]; omega)
  have e4 : dPut (dK tk rD ps) (.inl (n : Int)) (.ref S.length) = dK tk rD (ps ++ [(n, T, S.length)]) := dK_put (k := tk) (f := rD) (q := ((n, T, S.length) : Tr)) hn
  rw [e4] at e3
  obtain ⟨S2, hS2⟩ : ∃ S2, (S ++ [T.cell]).set d (.dct (dK tk rD (ps ++ [(n, T, S.length)]))) = S2 := ⟨_, rfl⟩
  rw [hS2] at e3
  have k3 : S2[h]? = some (hpC d n) := by rw [← hS2, get_set_ne (Ne.symm hd)]; exact at_app H.h1
  have e5 : insAt S2 h = some (7, [(Str.ofString "there", .ref d), (Str.ofString "count", .int (n : Int))]) := insAt_of k3
  obtain ⟨S3, hS3⟩ : ∃ S3, S2.set h (.ins 7 [(Str.ofString "there", .ref d), (Str.ofString "count", .int ((n : Int) + 1))]) = S3 := ⟨_, rfl⟩
  have e6 : insAt S3 h = some (7, [(Str.ofString "there", .ref d), (Str.ofString "count", .int ((n : Int) + 1))]) := insAt_of (by rw [← hS3]; exact get_set_at k3)
  refine ⟨S3, ?_, ⟨?_, ?_, fun p hp => ?_⟩, by rw [← hS3, ← hS2]; simp, fun i c hc h1 h2 => ?_⟩
  · simp [F_Heap_put, m_Heap_put, N_Heap_put, startL, e1, e2, List.lookup, beq_of, e3, putD, e5, hS3, e6]
  · rw [← hS3, get_set_at k3]
    simp [hpC]
  · rw [← hS3, get_set_ne hd, ← hS2, get_set_at k2]
  · have hp3 : (S ++ [T.cell])[p.2.2]? = some p.2.1.cell := by
      rcases List.mem_append.mp hp with hp | hp
      · exact at_app (H.h3 p hp)
      · simp at hp; subst hp; exact at_end
    have n1 : h ≠ p.2.2 := by
      rintro rfl
      rw [at_app H.h1] at hp3
      exact cell_hp _ _ _ (Option.some.inj hp3).symm
    have n2 : d ≠ p.2.2 := by
      rintro rfl
      rw [k2] at hp3
      exact cell_dct _ _ (Option.some.inj hp3).symm
    rw [← hS3, get_set_ne n1, ← hS2, get_set_ne n2]
    exact hp3
  · rw [← hS3, get_set_ne (Ne.symm h1), ← hS2, get_set_ne (Ne.symm h2)]
    exact at_app hc
theorem need_ok {S : Store} {h d n k : Nat} {ps : List Tr} (H : HeapAt S h d n ps) (hk : k ∈ keys ps) : F_Heap_need [.ref h, .int (k : Int)] S = .ok .non S := by
  obtain ⟨p, hp, _, _⟩ := atK_mem hk
  have e2 := H.ins
  have e4 := x_ninDict (k := k) H.h2
  rw [dK_look, hp] at e4
  simp [F_Heap_need, m_Heap_need, N_Heap_need, startL, isKind, e2, List.lookup, beq_of, e4]
theorem need_no {S : Store} {h d n k : Nat} {ps : List Tr} (H : HeapAt S h d n ps) (hk : k ∉ keys ps) : F_Heap_need [.ref h, .int (k : Int)] S = .ex ⟨1, []⟩ S := by
  have e2 := H.ins
  have e4 := x_ninDict (k := k) H.h2
  rw [dK_look, atK_none hk] at e4
  simp [F_Heap_need, m_Heap_need, N_Heap_need, startL, isKind, e2, List.lookup, beq_of, e4]
theorem change_eq {S : Store} {h d n k : Nat} {ps : List Tr} (H : HeapAt S h d n ps) (hk : k ∈ keys ps) (hz : ps.length < 1000000) (hd : h ≠ d) (T : Th) :
    ∃ S', F_Heap_change [.ref h, .int (k : Int), T.d] S = .ok .non S' ∧ HeapAt S' h d n (ps.map fun p => if tk p = k then (k, T, S.length) else p) ∧ S'.length = S.length + 1 ∧ ∀ i c, S[i]? = some c → i ≠ h → i ≠ d → S'[i]? = some c := by
  have e0 := need_ok H hk
  have e1 := thing_of_eq T S
  have e2 := (H.app [T.cell]).ins
  have e2' := H.ins
  have k2 : (S ++ [T.cell])[d]? = some (.dct (dK tk rD ps)) := at_app H.h2
  have e3 := x_setDict (S := S ++ [T.cell]) (n := d) (k := k) (v := .ref S.length) k2 (by rw [dK_len]; omega)
  have e4 : dPut (dK tk rD ps) (.inl (k : Int)) (.ref S.length) = dK tk rD (ps.map fun p => if tk p = k then (k, T, S.length) else p) := dK_set (k := tk) (f := rD) (q := ((k, T, S.length) : Tr)) hk
  rw [e4] at e3
  obtain ⟨S2, hS2⟩ : ∃ S2, (S ++ [T.cell]).set d (.dct (dK tk rD (ps.map fun p => if tk p = k then (k, T, S.length) else p))) = S2 := ⟨_, rfl⟩
  rw [hS2] at e3
  refine ⟨S2, ?_, ⟨?_, ?_, fun p hp => ?_⟩, by rw [← hS2]; simp, fun i c hc h1 h2 => ?_⟩
  · simp [F_Heap_change, m_Heap_change, N_Heap_change, startL, e1, e2, e2', List.lookup, beq_of, e3, R.noex, e0]
  · rw [← hS2, get_set_ne (Ne.symm hd)]; exact at_app H.h1
  · rw [← hS2, get_set_at k2]
  · have hp3 : (S ++ [T.cell])[p.2.2]? = some p.2.1.cell := by
      obtain ⟨q, hq, e⟩ := List.mem_map.mp hp
      split at e
      · subst e; exact at_end
      · subst e; exact at_app (H.h3 q hq)
    have n2 : d ≠ p.2.2 := by
      rintro rfl
      rw [k2] at hp3
      exact cell_dct _ _ (Option.some.inj hp3).symm
    rw [← hS2, get_set_ne n2]
    exact hp3
  · rw [← hS2, get_set_ne (Ne.symm h2)]
    exact at_app hc
noncomputable def shapeT : Tbl := [(3, F_Box_shape), (4, F_Maker_shape), (5, F_Maker_shape), (6, F_Waiting_shape)]
theorem shape_eq {T : Th} {S : Store} {r : Nat} (h : S[r]? = some T.cell) : ∃ c fs G, T.cell = .ins c fs ∧ fs.lookup (Str.ofString "shape") = none ∧ tblAt shapeT c = some G ∧ G [.ref r] S = .ok T.d S := by
  have e := fun c fs (q : T.cell = .ins c fs) => insAt_of (h.trans (congrArg some q))
  cases T with
  | box v =>
    have e := e _ _ rfl
    exact ⟨3, _, F_Box_shape, rfl, by simp [List.lookup, beq_of], rfl, by simp [F_Box_shape, m_Box_shape, N_Box_shape, startL, e, List.lookup, beq_of, Th.d, sz]⟩
  | fn own tk =>
    have e := e _ _ rfl
    exact ⟨4, _, F_Maker_shape, rfl, by simp [List.lookup, beq_of], rfl, by simp [F_Maker_shape, m_Maker_shape, N_Maker_shape, startL, e, List.lookup, beq_of, Th.d, sz, R.noex, F_Maker_kind_word, m_Maker_kind_word, N_Maker_kind_word]⟩
  | lo own tk =>
    have e := e _ _ rfl
    exact ⟨5, _, F_Maker_shape, rfl, by simp [List.lookup, beq_of], rfl, by simp [F_Maker_shape, m_Maker_shape, N_Maker_shape, startL, e, List.lookup, beq_of, Th.d, sz, R.noex, F_Looper_kind_word, m_Looper_kind_word, N_Looper_kind_word]⟩
  | wt own at_ sl bx tk =>
    have e := e _ _ rfl
    exact ⟨6, _, F_Waiting_shape, rfl, by simp [List.lookup, beq_of], rfl, by simp [F_Waiting_shape, m_Waiting_shape, N_Waiting_shape, startL, e, List.lookup, beq_of, Th.d, sz, R.noex, F_Waiting_kind_word, m_Waiting_kind_word, N_Waiting_kind_word]⟩
theorem thingAt_eq {S : Store} {h d n k : Nat} {ps : List Tr} {p : Tr} (H : HeapAt S h d n ps) (hp : atK tk ps k = some p) (hpm : p ∈ ps) (hk : k ∈ keys ps) : F_Heap_thing [.ref h, .int (k : Int)] S = .ok p.2.1.d S := by
  have e0 := need_ok H hk
  have e2 := H.ins
  obtain ⟨c, fs, G, p1, p2, p3, p4⟩ := shape_eq (H.h3 p hpm)
  have e3 : ixO S (.ref d) (.int (k : Int)) = some (.ref p.2.2) := by
    rw [x_ixDict H.h2, dK_look, hp]
    rfl
  have e4 : insAt S p.2.2 = some (c, fs) := insAt_of (by rw [H.h3 p hpm, p1])
  simp [F_Heap_thing, m_Heap_thing, N_Heap_thing, startL, e2, List.lookup, beq_of, R.noex, e0, x_ix, e3, e4, p2]
  simp only [shapeT, x_tblAt0, x_tblAtS] at p3
  rw [p3]
  simp [p4]
theorem gone_eq {S : Store} {h d n k : Nat} {ps : List Tr} (H : HeapAt S h d n ps) (hk : k ∉ keys ps) : F__law_is_gone [.ref h, .int (k : Int)] S = .ok (.bl true) S := by
  have e0 := need_no H hk
  have e2 := H.ins
  have e3 : F_Heap_thing [.ref h, .int (k : Int)] S = .ex ⟨1, []⟩ S := by
    simp [F_Heap_thing, m_Heap_thing, N_Heap_thing, startL, e2, List.lookup, beq_of, R.noex, e0]
  simp only [F__law_is_gone, m__law_is_gone, N__law_is_gone, x_bodyF, x_seqS]
  rw [catch_ex (x := ⟨1, []⟩) (S1 := S) (r := .ok (.rt (.bl true), [some (.ref h), some (.int (k : Int)), none]) S) (by simp [startL, e2, List.lookup, beq_of, R.noex, e3]) rfl (fun a => by simp [startL, kisX, kis])]
  simp
end K25

set_option Elab.async false
set_option linter.all false
set_option maxRecDepth 100000
set_option autoImplicit false
namespace K25
open PySem PySem.Spec L2 ML
/-! ### collect -/
theorem set_same {S : Store} {d : Nat} {c : Cell} (h : S[d]? = some c) : S.set d c = S := by
  refine List.ext_getElem? fun i => ?_
  by_cases q : d = i
  · subst q; rw [get_set_at h, h]
  · rw [get_set_ne q]
theorem popL {f : Tr → D} {d i : Nat} {b : MS} {L : Option D → ML.Loc} {chk Inv : Store → Prop} (hL : ∀ x y, (L x).set i (some y) = L (some y)) (hchk : ∀ S c, chk S → chk (S.set d c)) (hInv : ∀ S c, Inv S → Inv (S.set d c))
    (hb : ∀ (S : Store) (ps : List Tr) (k : Nat), S[d]? = some (.dct (dK tk f ps)) → Inv S → k ∈ keys ps → b (L (some (.int (k : Int)))) S = .ok (.nx, L (some (.int (k : Int)))) (S.set d (.dct (dDrop (dK tk f ps) (.inl (k : Int)))))) :
    ∀ (ks : List Nat) (ps : List Tr) (S : Store) (x : Option D), ks.Nodup → (∀ k ∈ ks, k ∈ keys ps) → S[d]? = some (.dct (dK tk f ps)) → Inv S → chk S → ∃ y, forL chk (nameT i) b (intsD ks) (L x) S = .ok (.nx, L y) (S.set d (.dct (dK tk f (ps.filter fun p => decide (tk p ∉ ks)))))
  | [], ps, S, x, _, _, hd, _, hc => ⟨x, by
      have e : (ps.filter fun p => decide (tk p ∉ ([] : List Nat))) = ps := List.filter_eq_self.mpr fun p _ => by simp
      rw [e, set_same hd]
      exact forL_nil hc⟩
  | k :: ks, ps, S, x, hn, hk, hd, hi, hc => by
    rw [List.nodup_cons] at hn
    have e1 := hb S ps k hd hi (hk k List.mem_cons_self)
    rw [dK_drop] at e1
    obtain ⟨y, e⟩ := popL hL hchk hInv hb ks (ps.filter fun p => decide (tk p ≠ k)) (S.set d (.dct (dK tk f (ps.filter fun p => decide (tk p ≠ k))))) (some (.int (k : Int))) hn.2 (fun j hj => by
      obtain ⟨p, hp, e⟩ := List.mem_map.mp (hk j (List.mem_cons_of_mem _ hj))
      refine List.mem_map.mpr ⟨p, List.mem_filter.mpr ⟨hp, ?_⟩, e⟩
      rw [e]
      exact decide_eq_true fun q => hn.1 (by rw [← q]; exact hj)) (get_set_at hd) (hInv _ _ hi) (hchk _ _ hc)
    refine ⟨y, ?_⟩
    have ei : intsD (k :: ks) = D.int (k : Int) :: intsD ks := rfl
    rw [ei, forL_cons hc]
    simp only [x_nameT, R.bind_ok, hL, e1, x_again_nx, e, List.set_set, List.filter_filter]
    congr 5
    funext p
    rw [Bool.eq_iff_iff]
    simp
    exact And.comm
theorem gone_keys (ps : List Tr) (L : List Nat) : (ps.filter fun p => decide (tk p ∉ (keys ps).filter fun k => decide (k ∉ L))) = ps.filter fun p => decide (tk p ∈ L) := by
  refine List.filter_congr fun p hp => ?_
  have : tk p ∈ keys ps := List.mem_map.mpr ⟨p, hp, rfl⟩
  rw [Bool.eq_iff_iff]
  simp [this]
theorem collect_eq {S : Store} {h d n a : Nat} {ps : List Tr} {vs : List Val} (H : HeapAt S h d n ps) (hd : h ≠ d) (hok : ∀ p ∈ ps, p.2.1.ok (keys ps)) (hr : (keys ps).Pairwise (· < ·)) (hn : (keys ps).length ≤ 2000) (ha : S[a]? = some (.lst (vs.map Val.d))) (hv : ∀ k ∈ nums vs, k ∈ keys ps) (hvl : vs.length ≤ 1000) :
    ∃ S' q L, F_Heap_collect [.ref h, .ref a] S = .ok (.ref q) S' ∧ S'[q]? = some (.lst (intsD ((keys ps).filter fun k => decide (k ∉ L)))) ∧ S.length ≤ q ∧ IsCl (sc ps) (nums vs) L ∧ HeapAt S' h d n (ps.filter fun p => decide (tk p ∈ L)) ∧ S.length ≤ S'.length ∧ ∀ i c, S[i]? = some c → i ≠ d → S'[i]? = some c := by
  obtain ⟨X, q1, L, e1, g1, lq1, c1⟩ := reached_eq H hok hn ha hv hvl
  obtain ⟨S1, hS1⟩ : ∃ S1, S ++ X = S1 := ⟨_, rfl⟩
  rw [hS1] at e1 g1
  have f1 : ∀ {i c}, S[i]? = some c → S1[i]? = some c := fun h => by rw [← hS1]; exact at_app h
  have H1 : HeapAt S1 h d n ps := by rw [← hS1]; exact H.app _
  have l1 : S.length ≤ S1.length := by rw [← hS1]; simp
  have hlen : L.length ≤ 2000 := by
    have hsub : ∀ k ∈ L, k ∈ keys ps := fun k hk => by
      have := (c1.2 k).mp hk
      induction this with
      | base h => exact hv _ h
      | @step j k _ e ih =>
        have hj := ih ((c1.2 j).mpr ‹_›)
        obtain ⟨p, hp, hpm, _⟩ := atK_mem hj
        have : sc ps j = p.2.1.succ := by
          unfold sc
          rw [hp]
        rw [this] at e
        exact (hok p hpm).1 k e
    have e : L = (keys ps).filter fun k => decide (k ∈ L) := rising_eq c1.1 (hr.filter _) fun k => by
      rw [List.mem_filter]
      simp
      exact hsub k
    rw [e]
    exact Nat.le_trans (List.length_filter_le _ _) hn
  have e2 := x_srcR g1
  have e3 : compL (fun S' => lstAt S' q1 = some (intsD L)) (.one 4) yesM (tupE (consA (varE 4) (consA (conE (.bl true)) (nilA)))) [some (.ref h), some (.ref a), none, none, none] (intsD L) [] S1 = .ok (L.map fun k : Nat => D.tup [.int (k : Int), .bl true]) S1 := by
    unfold intsD
    rw [compL_mapG (fun k : Nat => D.int (k : Int)) (fun k : Nat => D.tup [.int (k : Int), .bl true]) L (hk := lstAt_of g1)]
    · intro k hk
      simp [sz]
    · rw [sz]; omega
  have e4 := pairs_seen L (c1.1.imp fun h => Nat.ne_of_lt h) S1
  obtain ⟨S2, hS2⟩ : ∃ S2, S1 ++ [Cell.dct (seenD L)] = S2 := ⟨_, rfl⟩
  rw [hS2] at e4
  have H2 : HeapAt S2 h d n ps := by rw [← hS2]; exact H1.app _
  have k2 : S2[S1.length]? = some (.dct (seenD L)) := by rw [← hS2]; exact at_end
  have l2 : S1.length + 1 = S2.length := by rw [← hS2]; simp
  have f2 : ∀ {i c}, S1[i]? = some c → S2[i]? = some c := fun h => by rw [← hS2]; exact at_app h
  have e5 := numbers_eq H2 hr
  obtain ⟨S3, hS3⟩ : ∃ S3, S2 ++ [Cell.lst (intsD (keys ps))] = S3 := ⟨_, rfl⟩
  rw [hS3] at e5
  have k3 : S3[S2.length]? = some (.lst (intsD (keys ps))) := by rw [← hS3]; exact at_end
  have f3 : ∀ {i c}, S2[i]? = some c → S3[i]? = some c := fun h => by rw [← hS3]; exact at_app h
  have H3 : HeapAt S3 h d n ps := by rw [← hS3]; exact H2.app _
  have l3 : S2.length + 1 = S3.length := by rw [← hS3]; simp
  have e6 := x_srcR k3
  have e7 : compL (fun S' => lstAt S' S2.length = some (intsD (keys ps))) (.one 4) (cmpM notInD (varE 4) (varE 2)) (varE 4) [some (.ref h), some (.ref a), some (.ref S1.length), none, none] (intsD (keys ps)) [] S3 = .ok (intsD ((keys ps).filter fun k => decide (k ∉ L))) S3 := by
    unfold intsD
    rw [compL_filG (fun k : Nat => D.int (k : Int)) (fun k => decide (k ∉ L)) (fun k : Nat => D.int (k : Int)) (keys ps) (hk := lstAt_of k3)]
    · intro k hk
      have := x_ninDict (k := k) (f3 k2)
      rw [seen_look] at this
      simp [this]
    · intro k hk _
      simp
    · rw [sz]; omega
  obtain ⟨G, hG⟩ : ∃ G, ((keys ps).filter fun k => decide (k ∉ L)) = G := ⟨_, rfl⟩
  have gn : G.Nodup := by rw [← hG]; exact (hr.imp fun h => Nat.ne_of_lt h).filter _
  have gk : ∀ k ∈ G, k ∈ keys ps := fun k hk => by rw [← hG] at hk; exact (List.mem_filter.mp hk).1
  have gg := gone_keys ps L
  rw [hG] at e7 gg
  obtain ⟨S4, hS4⟩ : ∃ S4, S3 ++ [Cell.lst (intsD G)] = S4 := ⟨_, rfl⟩
  have k4 : S4[S3.length]? = some (.lst (intsD G)) := by rw [← hS4]; exact at_end
  have H4 : HeapAt S4 h d n ps := by rw [← hS4]; exact H3.app _
  have l4 : S3.length + 1 = S4.length := by rw [← hS4]; simp
  have f4 : ∀ {i c}, S3[i]? = some c → S4[i]? = some c := fun h => by rw [← hS4]; exact at_app h
  have e8 := x_srcR k4
  have ldx := lt_of_at H.h2
  obtain ⟨y, e9⟩ := popL (f := rD) (d := d) (i := 4) (b := b_Heap_collect_0) (L := fun x => [some (.ref h), some (.ref a), some (.ref S1.length), some (.ref S3.length), x]) (chk := fun S' => lstAt S' S3.length = some (intsD G)) (Inv := fun S' => insAt S' h = some (7, [(Str.ofString "there", .ref d), (Str.ofString "count", .int (n : Int))]))
    (fun x y => rfl) (fun S' c hc => by
      have := lstAt_some hc
      exact lstAt_of (by rw [get_set_ne (by omega)]; exact this)) (fun S' c hc => by
      have := insAt_some hc
      exact insAt_of (by rw [get_set_ne (Ne.symm hd)]; exact this)) (fun S' ps' k h2 h1 hk => by
      obtain ⟨p, hp, _, _⟩ := atK_mem hk
      have hv := dK_look tk rD k ps'
      rw [hp] at hv
      have := x_dpop (S := S') (m := fldE [7] (Str.ofString "there") (varE 0)) (n := varE 4) (l := [some (.ref h), some (.ref a), some (.ref S1.length), some (.ref S3.length), some (.int (k : Int))]) (k := k) (by simp [h1, List.lookup, beq_of]) (by simp) h2 hv
      unfold b_Heap_collect_0
      simp [this]) G ps S4 none gn gk H4.h2 H4.ins (lstAt_of k4)
  rw [gg] at e9
  obtain ⟨S5, hS5⟩ : ∃ S5, S4.set d (.dct (dK tk rD (ps.filter fun p => decide (tk p ∈ L)))) = S5 := ⟨_, rfl⟩
  rw [hS5] at e9
  have i0 := H.ins
  have i2 := H2.ins
  refine ⟨S5, S3.length, L, ?_, ?_, by omega, c1, ⟨?_, ?_, fun p hp => ?_⟩, by rw [← hS5]; simp; omega, fun i c hc hi => ?_⟩
  · simp [F_Heap_collect, m_Heap_collect, N_Heap_collect, startL, i0, List.lookup, beq_of, R.noex, e1, e2, Tgt.own, wipeL, e3, e4, i2, e5, e6, e7, hS4, e8, e9]
  · rw [hG, ← hS5, get_set_ne (by omega)]; exact k4
  · rw [← hS5, get_set_ne (Ne.symm hd)]; exact H4.h1
  · rw [← hS5, get_set_at H4.h2]
  · have hp := H4.h3 p (List.mem_filter.mp hp).1
    have n2 : d ≠ p.2.2 := by
      rintro rfl
      rw [H4.h2] at hp
      exact cell_dct _ _ (Option.some.inj hp).symm
    rw [← hS5, get_set_ne n2]; exact hp
  · rw [← hS5, get_set_ne (Ne.symm hi)]; exact f4 (f3 (f2 (f1 hc)))
end K25

set_option Elab.async false
set_option linter.all false
set_option maxRecDepth 100000
set_option autoImplicit false
namespace K25
open PySem PySem.Spec L2 ML
/-! ### what stays -/
structure Good (n : Nat) (ps : List Tr) : Prop where
  ris : (keys ps).Pairwise (· < ·)
  lt : ∀ k ∈ keys ps, k < n
  ok : ∀ p ∈ ps, p.2.1.ok (keys ps)
theorem atK_self {ps : List Tr} (hr : (keys ps).Pairwise (· < ·)) {p : Tr} (hp : p ∈ ps) : atK tk ps (tk p) = some p := by
  have gen : ∀ qs : List Tr, (keys qs).Pairwise (· < ·) → p ∈ qs → atK tk qs (tk p) = some p := by
    intro qs
    induction qs with
    | nil => intro _ h; simp at h
    | cons q qs ih =>
      intro hr h
      have hr : (tk q :: keys qs).Pairwise (· < ·) := hr
      rw [List.pairwise_cons] at hr
      unfold atK at ih ⊢
      rw [List.find?_cons]
      rcases List.mem_cons.mp h with e | e
      · subst e; simp
      · have : tk q < tk p := hr.1 _ (List.mem_map.mpr ⟨p, e, rfl⟩)
        have ne : ¬ tk q = tk p := by omega
        simp only [ne, decide_false]
        exact ih hr.2 e
  exact gen ps hr hp
theorem atK_filter {ps : List Tr} {q : Tr → Bool} {k : Nat} (h : ∀ p ∈ ps, tk p = k → q p = true) : atK tk (ps.filter q) k = atK tk ps k := by
  unfold atK
  rw [List.find?_filter]
  induction ps with
  | nil => rfl
  | cons p ps ih =>
    have ih := ih fun r hr => h r (List.mem_cons_of_mem _ hr)
    rw [List.find?_cons, List.find?_cons]
    by_cases e : tk p = k
    · have := h p List.mem_cons_self e
      simp [e, this]
    · have e2 : decide (q p = true ∧ decide (tk p = k) = true) = false := by simp [e]
      have e3 : decide (tk p = k) = false := decide_eq_false e
      rw [e2, e3]
      exact ih
def keep (ps : List Tr) (L : List Nat) : List Tr := ps.filter fun p => decide (tk p ∈ L)
theorem keep_keys (ps : List Tr) (L : List Nat) : keys (keep ps L) = (keys ps).filter fun k => decide (k ∈ L) := by
  unfold keys keep
  rw [List.filter_map]
  rfl
section
variable {n : Nat} {ps : List Tr} {vs L : List Nat}
theorem cl_keys (hg : Good n ps) (hv : ∀ k ∈ vs, k ∈ keys ps) (c : IsCl (sc ps) vs L) : ∀ k ∈ L, k ∈ keys ps := fun k hk => by
  have := (c.2 k).mp hk
  induction this with
  | base h => exact hv _ h
  | @step j k r e ih =>
    have hj := ih ((c.2 j).mpr r)
    obtain ⟨p, hp, hpm, _⟩ := atK_mem hj
    have : sc ps j = p.2.1.succ := by
      unfold sc
      rw [hp]
    rw [this] at e
    exact (hg.ok p hpm).1 k e
theorem sc_at (hg : Good n ps) {p : Tr} (hp : p ∈ ps) : sc ps (tk p) = p.2.1.succ := by
  unfold sc
  rw [atK_self hg.ris hp]
theorem mem_keep (hg : Good n ps) (hv : ∀ k ∈ vs, k ∈ keys ps) (c : IsCl (sc ps) vs L) {k : Nat} : k ∈ keys (keep ps L) ↔ k ∈ L := by
  rw [keep_keys, List.mem_filter]
  simp
  exact cl_keys hg hv c k
theorem Good.keep (hg : Good n ps) (hv : ∀ k ∈ vs, k ∈ keys ps) (c : IsCl (sc ps) vs L) : Good n (keep ps L) := by
  refine ⟨by rw [keep_keys]; exact hg.ris.filter _, fun k hk => hg.lt k (by rw [keep_keys] at hk; exact (List.mem_filter.mp hk).1), fun p hp => ?_⟩
  obtain ⟨hp, hl⟩ := List.mem_filter.mp hp
  have hl : tk p ∈ L := of_decide_eq_true hl
  refine ⟨fun k hk => (mem_keep hg hv c).mpr ((c.2 k).mpr (.step ((c.2 _).mp hl) (by rw [sc_at hg hp]; exact hk))), (hg.ok p hp).2⟩
theorem keep_again (hg : Good n ps) (hv : ∀ k ∈ vs, k ∈ keys ps) (c : IsCl (sc ps) vs L) {M : List Nat} (c2 : IsCl (sc (keep ps L)) vs M) : ∀ k ∈ L, k ∈ M := fun k hk => by
  refine (c2.2 k).mpr ?_
  have := (c.2 k).mp hk
  induction this with
  | base h => exact .base h
  | @step j k r e ih =>
    have hj : j ∈ L := (c.2 j).mpr r
    refine .step (ih hj) ?_
    have : sc (keep ps L) j = sc ps j := by
      unfold sc
      unfold keep
      rw [atK_filter fun p _ hp => by rw [hp]; exact decide_eq_true hj]
    rw [this]
    exact e
end
/-! ### the law's collection -/
theorem collected_eq {S : Store} {h d t n a e : Nat} {ps : List Tr} {vs : List Val} {held : List D} (H : HeapAt S h d n ps) (ht : S[t]? = some (.dct (dK tk tD ps))) (he : S[e]? = some (.lst held)) (hd : h ≠ d) (d1 : t ≠ h) (d2 : t ≠ d) (d3 : e ≠ d) (d4 : e ≠ t) (hg : Good n ps) (hn : (keys ps).length ≤ 2000) (hh : held.length ≤ 1000) (ha : S[a]? = some (.lst (vs.map Val.d))) (a1 : a ≠ d) (a2 : a ≠ t) (a3 : a ≠ e) (hv : ∀ k ∈ nums vs, k ∈ keys ps) (hvl : vs.length ≤ 900) :
    ∃ (S' : Store) (p : Nat × Nat) (L : List Nat), F__law_collected [.ref h, .ref t, .ref a, .ref e] S = .ok (.bl true) S' ∧ HeapAt S' h d n (keep ps L) ∧ S'[t]? = some (.dct (dK tk tD (keep ps L))) ∧ S'[e]? = some (.lst (held ++ [.tup [.ref p.1, .ref p.2]])) ∧ (∃ M, S'[p.1]? = some (.lst (intsD M)) ∧ S'[p.2]? = some (.lst (intsD M)) ∧ S.length ≤ p.1 ∧ S.length ≤ p.2) ∧ Good n (keep ps L) ∧ S.length ≤ S'.length ∧ ∀ i c, S[i]? = some c → i ≠ d → i ≠ t → i ≠ e → S'[i]? = some c := by
  have ldx := lt_of_at H.h2
  have ltx := lt_of_at ht
  have lex := lt_of_at he
  have lax := lt_of_at ha
  have e1 := x_listLst (S := S) (lstAt_of ha)
  obtain ⟨S1, hS1⟩ : ∃ S1, S ++ [Cell.lst (vs.map Val.d)] = S1 := ⟨_, rfl⟩
  have f1 : ∀ {i c}, S[i]? = some c → S1[i]? = some c := fun h => by rw [← hS1]; exact at_app h
  have k1 : S1[S.length]? = some (.lst (vs.map Val.d)) := by rw [← hS1]; exact at_end
  have H1 : HeapAt S1 h d n ps := by rw [← hS1]; exact H.app _
  have l1 : S.length + 1 = S1.length := by rw [← hS1]; simp
  obtain ⟨X2, q1, L, e2, g1, lq1, c1⟩ := lreached_eq (f1 ht) hg.ok hn (f1 ha) hv (by omega)
  obtain ⟨S2, hS2⟩ : ∃ S2, S1 ++ X2 = S2 := ⟨_, rfl⟩
  rw [hS2] at e2 g1
  have f2 : ∀ {i c}, S1[i]? = some c → S2[i]? = some c := fun h => by rw [← hS2]; exact at_app h
  have H2 : HeapAt S2 h d n ps := by rw [← hS2]; exact H1.app _
  have l2 : S1.length ≤ S2.length := by rw [← hS2]; simp
  have e3 : listV [.ref t] S2 = .ok (intsD (keys ps)) S2 := by
    have := x_listDict (f2 (f1 ht))
    rw [dK_keys] at this
    exact this
  have e4 := sortL_ints (keys ps) S2
  rw [sort_rising hg.ris] at e4
  obtain ⟨G, hG⟩ : ∃ G, ((keys ps).filter fun k => decide (k ∉ L)) = G := ⟨_, rfl⟩
  have gn : G.Nodup := by rw [← hG]; exact (hg.ris.imp fun h => Nat.ne_of_lt h).filter _
  have gk : ∀ k ∈ G, k ∈ keys ps := fun k hk => by rw [← hG] at hk; exact (List.mem_filter.mp hk).1
  have gl : G.length ≤ 2000 := by rw [← hG]; exact Nat.le_trans (List.length_filter_le _ _) hn
  have gg := gone_keys ps L
  rw [hG] at gg
  have e5 : compL still (.one 8) (cmpM notInD (varE 8) (varE 5)) (varE 8) [some (.ref h), some (.ref t), some (.ref a), some (.ref e), some (.ref S.length), some (.ref q1), none, none, none] (intsD (keys ps)) [] S2 = .ok (intsD G) S2 := by
    rw [← hG]
    unfold intsD
    rw [compL_filG (fun k : Nat => D.int (k : Int)) (fun k => decide (k ∉ L)) (fun k : Nat => D.int (k : Int)) (keys ps)]
    · intro k hk
      have := x_ninInts (k := k) (lstAt_of g1)
      simp [this]
    · intro k hk _
      simp
    · rw [sz]; omega
  obtain ⟨S3, hS3⟩ : ∃ S3, S2 ++ [Cell.lst (intsD G)] = S3 := ⟨_, rfl⟩
  have k3 : S3[S2.length]? = some (.lst (intsD G)) := by rw [← hS3]; exact at_end
  have f3 : ∀ {i c}, S2[i]? = some c → S3[i]? = some c := fun h => by rw [← hS3]; exact at_app h
  have H3 : HeapAt S3 h d n ps := by rw [← hS3]; exact H2.app _
  have l3 : S2.length + 1 = S3.length := by rw [← hS3]; simp
  obtain ⟨S4, q4, L4, e6, g4, lq4, c4, H4, l4, f4⟩ := collect_eq H3 hd hg.ok hg.ris hn (f3 (f2 k1)) hv (by omega)
  have hL : L4 = L := c4.uniq c1
  subst hL
  rw [hG] at g4
  have k34 : S4[S2.length]? = some (.lst (intsD G)) := f4 _ _ k3 (by omega)
  have e7 := x_neInts g4 k34
  rw [decide_eq_true rfl] at e7
  have kv4 : S4[S.length]? = some (.lst (vs.map Val.d)) := f4 _ _ (f3 (f2 k1)) (by omega)
  have ka4 : S4[a]? = some (.lst (vs.map Val.d)) := f4 _ _ (f3 (f2 (f1 ha))) a1
  have e8 : neD (.ref S.length) (.ref a) S4 = .ok false S4 := by
    rw [neD_of (toPy_vals kv4 62) (toPy_vals ka4 62) (by rw [PyData.canLay0]; exact lay_vals vs) (by rw [PyData.canLay0]; exact lay_vals vs), PyData.eqv, eqvs_self _ (lay_vals vs)]
    rfl
  have ke4 : S4[e]? = some (.lst held) := f4 _ _ (f3 (f2 (f1 he))) d3
  have e9 := x_append (d := .tup [.ref q4, .ref S2.length]) (lstAt_of ke4) (by omega)
  obtain ⟨S5, hS5⟩ : ∃ S5, S4.set e (.lst (held ++ [.tup [.ref q4, .ref S2.length]])) = S5 := ⟨_, rfl⟩
  rw [hS5] at e9
  have f5 : ∀ {i c}, i ≠ e → S4[i]? = some c → S5[i]? = some c := fun hi h => by rw [← hS5, get_set_ne (Ne.symm hi)]; exact h
  have k5 : S5[e]? = some (.lst (held ++ [.tup [.ref q4, .ref S2.length]])) := by rw [← hS5, get_set_at ke4]
  have he1 : e ≠ h := by
    rintro rfl
    have := H.h1
    rw [he] at this
    cases this
  have H5 : HeapAt S5 h d n (keep ps L4) := by
    rw [← hS5]
    exact H4.set ke4 he1 d3 (fun T => cell_lst T _)
  have l5 : S4.length = S5.length := by rw [← hS5]; simp
  have kt5 : S5[t]? = some (.dct (dK tk tD ps)) := f5 (Ne.symm d4) (f4 _ _ (f3 (f2 (f1 ht))) d2)
  have kg5 : S5[S2.length]? = some (.lst (intsD G)) := f5 (by omega) k34
  have e10 := x_srcR kg5
  obtain ⟨y, e11⟩ := popL (f := tD) (d := t) (i := 8) (b := b__law_collected_0) (L := fun x => [some (.ref h), some (.ref t), some (.ref a), some (.ref e), some (.ref S.length), some (.ref q1), some (.ref S2.length), some (.ref q4), x]) (chk := fun S' => lstAt S' S2.length = some (intsD G)) (Inv := fun _ => True)
    (fun x y => rfl) (fun S' c hc => by
      have := lstAt_some hc
      exact lstAt_of (by rw [get_set_ne (by omega)]; exact this)) (fun _ _ _ => trivial) (fun S' ps' k h2 _ hk => by
      obtain ⟨p, hp, _, _⟩ := atK_mem hk
      have hv := dK_look tk tD k ps'
      rw [hp] at hv
      have := x_dpop (S := S') (m := varE 1) (n := varE 8) (l := [some (.ref h), some (.ref t), some (.ref a), some (.ref e), some (.ref S.length), some (.ref q1), some (.ref S2.length), some (.ref q4), some (.int (k : Int))]) (k := k) (by simp) (by simp) h2 hv
      unfold b__law_collected_0
      simp [this]) G ps S5 none gn gk kt5 trivial (lstAt_of kg5)
  rw [gg] at e11
  obtain ⟨S6, hS6⟩ : ∃ S6, S5.set t (.dct (dK tk tD (ps.filter fun p => decide (tk p ∈ L4)))) = S6 := ⟨_, rfl⟩
  rw [hS6] at e11
  have f6 : ∀ {i c}, i ≠ t → S5[i]? = some c → S6[i]? = some c := fun hi h => by rw [← hS6, get_set_ne (Ne.symm hi)]; exact h
  have kt6 : S6[t]? = some (.dct (dK tk tD (keep ps L4))) := by rw [← hS6, get_set_at kt5]; rfl
  have H6 : HeapAt S6 h d n (keep ps L4) := by
    rw [← hS6]
    exact H5.set kt5 d1 d2 (fun T => cell_dct T _)
  have l6 : S5.length = S6.length := by rw [← hS6]; simp
  have hg6 := hg.keep hv c1
  have hv6 : ∀ k ∈ nums vs, k ∈ keys (keep ps L4) := fun k hk => (mem_keep hg hv c1).mpr ((c1.2 k).mpr (.base hk))
  have hn6 : (keys (keep ps L4)).length ≤ 2000 := by rw [keep_keys]; exact Nat.le_trans (List.length_filter_le _ _) hn
  obtain ⟨S7, q7, L7, e12, g7, lq7, c7, H7, l7, f7⟩ := collect_eq H6 hd hg6.ok hg6.ris hn6 (f6 a2 (f5 a3 ka4)) hv6 (by omega)
  have hall : ∀ k ∈ keys (keep ps L4), k ∈ L7 := fun k hk => keep_again hg hv c1 c7 k ((mem_keep hg hv c1).mp hk)
  have hnil : ((keys (keep ps L4)).filter fun k => decide (k ∉ L7)) = [] := List.filter_eq_nil_iff.mpr fun k hk => by simpa using hall k hk
  have hself : ((keep ps L4).filter fun p => decide (tk p ∈ L7)) = keep ps L4 := List.filter_eq_self.mpr fun p hp => decide_eq_true (hall _ (List.mem_map.mpr ⟨p, hp, rfl⟩))
  rw [hnil] at g7
  rw [hself] at H7
  obtain ⟨S8, hS8⟩ : ∃ S8, S7 ++ [Cell.lst []] = S8 := ⟨_, rfl⟩
  have f8 : ∀ {i c}, S7[i]? = some c → S8[i]? = some c := fun h => by rw [← hS8]; exact at_app h
  have e13 := x_eqInts (S := S8) (n := q7) (m := S7.length) (l := []) (k := []) (f8 g7) (by rw [← hS8]; exact at_end)
  rw [decide_eq_true rfl] at e13
  have i3 := H3.ins
  have i6 := H6.ins
  have lq4x := lt_of_at g4
  refine ⟨S8, (q4, S2.length), L4, ?_, by rw [← hS8]; exact H7.app _, f8 (f7 _ _ kt6 d2), f8 (f7 _ _ (f6 d4 k5) d3), ⟨G, f8 (f7 _ _ (f6 (by omega) (f5 (by omega) g4)) (by omega)), f8 (f7 _ _ (f6 (by omega) kg5) (by omega)), by show S.length ≤ q4; omega, by show S.length ≤ S2.length; omega⟩, hg6, by rw [← hS8]; simp; omega, fun i c hc h1 h2 h3 => f8 (f7 _ _ (f6 h2 (f5 h3 (f4 _ _ (f3 (f2 (f1 hc))) h1))) h1)⟩
  simp [F__law_collected, m__law_collected, N__law_collected, startL, e1, hS1, e2, e3, e4, Tgt.own, wipeL, e5, hS3, i3, List.lookup, beq_of, R.noex, e6, x_kLst g4, isKind, e7, e8, lstAt_of ke4, sz, e9, e10, e11, i6, e12, hS8, e13]
end K25

set_option Elab.async false
set_option linter.all false
set_option maxRecDepth 100000
set_option autoImplicit false
namespace K25
open PySem PySem.Spec L2 ML
/-! ### things as data -/
theorem lay_of (s : String) : (PyData.str (Str.ofString s)).canLay0 = true := by
  rw [mkS_of]
  refine lay_str fun c hc => ?_
  obtain ⟨ch, _, rfl⟩ := List.mem_map.mp hc
  have := ch.valid
  have h2 : ch.toNat < 55296 ∨ (57343 < ch.toNat ∧ ch.toNat < 1114112) := this
  omega
theorem toPy_intsL (S : Store) (k : Nat) (l : List Nat) : toPy S (k + 1) (.tup (intsD l)) = some (.tuple (l.map fun i : Nat => PyData.int (i : Int))) := by
  rw [toPy_tup]
  unfold intsD
  rw [mapO_some (f := toPy S k) (g := fun i : Nat => D.int (i : Int)) (h := fun i : Nat => PyData.int (i : Int)) (fun i => toPy_int S k i)]
  rfl
theorem toPy_valsL (S : Store) (k : Nat) (l : List Val) : toPy S (k + 2) (.tup (l.map Val.d)) = some (.tuple (l.map Val.py)) := by
  rw [toPy_tup, mapO_some (f := toPy S (k + 1)) (g := Val.d) (h := Val.py) (toPy_val S k)]
  rfl
theorem th_py {T : Th} {V : List Nat} (h : T.ok V) : ∃ p : PyData, p.canLay0 = true ∧ ∀ S, toPy S 63 T.d = some p := by
  cases T with
  | box v =>
    refine ⟨.tuple [.str (Str.ofString "box"), v.py], ?_, fun S => ?_⟩
    · simp [PyData.canLay0, PyData.canLayAll0, lay_val]
      exact lay_of "box"
    · rw [Th.d, toPy_tup]
      have := toPy_val S 61 v
      simp only [mapO_cons, mapO_nil, toPy_str, this]
      rfl
  | fn own tk =>
    refine ⟨.tuple [.str (Str.ofString "fun"), .int own, .tuple (tk.map fun i : Nat => PyData.int (i : Int))], ?_, fun S => ?_⟩
    · have := lay_of "fun"
      simp only [PyData.canLay0, PyData.canLayAll0, lay_ints] at this ⊢
      simp [this]
    · rw [Th.d, toPy_tup]
      have := toPy_intsL S 61 tk
      simp only [mapO_cons, mapO_nil, toPy_str, toPy_int, this]
      rfl
  | lo own tk =>
    refine ⟨.tuple [.str (Str.ofString "loop"), .int own, .tuple (tk.map fun i : Nat => PyData.int (i : Int))], ?_, fun S => ?_⟩
    · have := lay_of "loop"
      simp only [PyData.canLay0, PyData.canLayAll0, lay_ints] at this ⊢
      simp [this]
    · rw [Th.d, toPy_tup]
      have := toPy_intsL S 61 tk
      simp only [mapO_cons, mapO_nil, toPy_str, toPy_int, this]
      rfl
  | wt own at_ sl bx tk =>
    have hat : ∃ q : PyData, q.canLay0 = true ∧ ∀ S, toPy S 62 at_ = some q := by
      rcases h.2.2 with ⟨i, rfl⟩ | ⟨s, rfl⟩
      · exact ⟨.int i, rfl, fun S => toPy_int S _ i⟩
      · exact ⟨.str (Str.ofString s), lay_of s, fun S => toPy_str S _ _⟩
    obtain ⟨q, q1, q2⟩ := hat
    refine ⟨.tuple [.str (Str.ofString "waiting"), .int own, q, .tuple (sl.map Val.py), .tuple (bx.map fun i : Nat => PyData.int (i : Int)), .tuple (tk.map fun i : Nat => PyData.int (i : Int))], ?_, fun S => ?_⟩
    · have := lay_of "waiting"
      simp only [PyData.canLay0, PyData.canLayAll0, lay_ints, lay_vals, q1] at this ⊢
      simp [this]
    · rw [Th.d, toPy_tup]
      have e1 := toPy_intsL S 61 tk
      have e2 := toPy_intsL S 61 bx
      have e3 := toPy_valsL S 60 sl
      simp only [mapO_cons, mapO_nil, toPy_str, toPy_int, q2, e1, e2, e3]
      rfl
theorem ths_py {V : List Nat} : ∀ {ps : List Tr}, (∀ p ∈ ps, p.2.1.ok V) → ∃ ys, PyData.canLayAll0 ys = true ∧ ∀ S, mapO (toPy S 63) (ps.map tD) = some ys
  | [], _ => ⟨[], rfl, fun S => rfl⟩
  | p :: ps, h => by
    obtain ⟨y, h1, h2⟩ := th_py (h p List.mem_cons_self)
    obtain ⟨ys, h3, h4⟩ := ths_py fun q hq => h q (List.mem_cons_of_mem _ hq)
    refine ⟨y :: ys, by rw [PyData.canLayAll0, h1, h3]; rfl, fun S => ?_⟩
    have : tD p = p.2.1.d := rfl
    rw [List.map_cons, mapO_cons, h4, this, h2]
theorem ris_len {l : List Nat} {n : Nat} (h : l.Pairwise (· < ·)) (hl : ∀ k ∈ l, k < n) : l.length ≤ n := by
  have e : l = (List.range n).filter fun k => decide (k ∈ l) := rising_eq h (List.pairwise_lt_range.filter _) fun k => by
    rw [List.mem_filter, List.mem_range]
    simp
    exact hl k
  rw [e]
  refine Nat.le_trans (List.length_filter_le _ _) ?_
  rw [List.length_range]
  exact Nat.le_refl _
/-! ### the law's look -/
theorem right_eq {S : Store} {h d t n : Nat} {ps : List Tr} (H : HeapAt S h d n ps) (ht : S[t]? = some (.dct (dK tk tD ps))) (hg : Good n ps) (hn : n ≤ 1000) : ∃ X, F__law_right [.ref h, .ref t, .int (n : Int)] S = .ok (.bl true) (S ++ X) := by
  have hlen := ris_len hg.ris hg.lt
  have e1 : listV [.ref t] S = .ok (intsD (keys ps)) S := by
    have := x_listDict ht
    rw [dK_keys] at this
    exact this
  have e2 := sortL_ints (keys ps) S
  rw [sort_rising hg.ris] at e2
  obtain ⟨S1, hS1⟩ : ∃ S1, S ++ [Cell.lst (intsD (keys ps))] = S1 := ⟨_, rfl⟩
  have H1 : HeapAt S1 h d n ps := by rw [← hS1]; exact H.app _
  have k1 : S1[S.length]? = some (.lst (intsD (keys ps))) := by rw [← hS1]; exact at_end
  have e3 := numbers_eq H1 hg.ris
  obtain ⟨S2, hS2⟩ : ∃ S2, S1 ++ [Cell.lst (intsD (keys ps))] = S2 := ⟨_, rfl⟩
  rw [hS2] at e3
  have H2 : HeapAt S2 h d n ps := by rw [← hS2]; exact H1.app _
  have f2 : ∀ {i c}, S1[i]? = some c → S2[i]? = some c := fun h => by rw [← hS2]; exact at_app h
  have f1 : ∀ {i c}, S[i]? = some c → S1[i]? = some c := fun h => by rw [← hS1]; exact at_app h
  have e4 := x_neInts (S := S2) (n := S1.length) (m := S.length) (l := keys ps) (k := keys ps) (by rw [← hS2]; exact at_end) (f2 k1)
  rw [decide_eq_true rfl] at e4
  have e5 := x_srcR (f2 k1)
  have ek : intsD (keys ps) = ps.map fun p : Tr => D.int (tk p : Int) := by unfold intsD keys; rw [List.map_map]; rfl
  have hmem : ∀ p ∈ ps, tk p ∈ keys ps := fun p hp => List.mem_map.mpr ⟨p, hp, rfl⟩
  have i2 := H2.ins
  have e6 : compL (fun S' => lstAt S' S.length = some (intsD (keys ps))) (.one 4) yesM (methE "thing" 2 [(7, F_Heap_thing)] (varE 0) (consA (varE 4) (nilA))) [some (.ref h), some (.ref t), some (.int (n : Int)), some (.ref S.length), none] (intsD (keys ps)) [] S2 = .ok (ps.map tD) S2 := by
    have hk := lstAt_of (f2 k1)
    rw [ek] at hk ⊢
    rw [compL_mapG (fun p : Tr => D.int (tk p : Int)) tD ps (hk := hk)]
    · intro p hp
      have := thingAt_eq H2 (atK_self hg.ris hp) hp (hmem p hp)
      simp [i2, List.lookup, beq_of, R.noex, this]
      rfl
    · rw [sz]
      have : (keys ps).length = ps.length := by unfold keys; rw [List.length_map]
      omega
  have e7 : compL (fun S' => lstAt S' S.length = some (intsD (keys ps))) (.one 4) yesM (binE ixD (varE 1) (varE 4)) [some (.ref h), some (.ref t), some (.int (n : Int)), some (.ref S.length), none] (intsD (keys ps)) [] S2 = .ok (ps.map tD) S2 := by
    have hk := lstAt_of (f2 k1)
    rw [ek] at hk ⊢
    rw [compL_mapG (fun p : Tr => D.int (tk p : Int)) tD ps (hk := hk)]
    · intro p hp
      have : ixO S2 (.ref t) (.int (tk p : Int)) = some (tD p) := by
        rw [x_ixDict (f2 (f1 ht)), dK_look, atK_self hg.ris hp]
        rfl
      simp [x_ix, this]
    · rw [sz]
      have : (keys ps).length = ps.length := by unfold keys; rw [List.length_map]
      omega
  obtain ⟨ys, y1, y2⟩ := ths_py hg.ok
  have e8 := eqLs_self (y2 S2) y1
  have hr : rng1 [.int ((n : Int) + 1)] S2 = .ok (ML.intsFrom 0 (n + 1), still) S2 := by
    rw [x_rng1 (by omega) (by omega), show ((n : Int) + 1).toNat = n + 1 by omega]
  have e9 : compL still (.one 4) (cmpM notInD (varE 4) (varE 1)) (callE 2 F__law_is_gone (consA (varE 0) (consA (varE 4) (nilA)))) [some (.ref h), some (.ref t), some (.int (n : Int)), some (.ref S.length), none] (ML.intsFrom 0 (n + 1)) [] S2 = .ok (((List.range (n + 1)).filter fun k => decide (k ∉ keys ps)).map fun _ => D.bl true) S2 := by
    rw [rng_ints]
    unfold intsD
    rw [compL_filG (fun k : Nat => D.int (k : Int)) (fun k => decide (k ∉ keys ps)) (fun _ => D.bl true) (List.range (n + 1))]
    · intro k hk
      have := x_ninDict (k := k) (f2 (f1 ht))
      rw [dK_look] at this
      simp [this]
      by_cases q : k ∈ keys ps
      · obtain ⟨p, hp, _⟩ := atK_mem q
        simp [q, hp]
      · simp [q, atK_none q]
    · intro k hk q
      have q : k ∉ keys ps := of_decide_eq_true q
      simp [gone_eq H2 q]
    · rw [sz]; simp; omega
  have e10 := allL_map (fun _ : Nat => true) ((List.range (n + 1)).filter fun k => decide (k ∉ keys ps)) S2
  obtain ⟨G, hG⟩ : ∃ G, ((List.range (n + 1)).filter fun k => decide (k ∉ keys ps)) = G := ⟨_, rfl⟩
  rw [hG] at e9 e10
  have i1 := H1.ins
  refine ⟨[Cell.lst (intsD (keys ps)), Cell.lst (intsD (keys ps))], ?_⟩
  have hS : S ++ [Cell.lst (intsD (keys ps)), Cell.lst (intsD (keys ps))] = S2 := by rw [← hS2, ← hS1, List.append_assoc]; rfl
  rw [hS]
  simp [F__law_right, m__law_right, N__law_right, startL, e1, e2, hS1, i1, List.lookup, beq_of, e3, e4, e5, Tgt.own, wipeL, e6, e7, e8, hr, e9, e10]
end K25

set_option Elab.async false
set_option linter.all false
set_option maxRecDepth 100000
set_option autoImplicit false
namespace K25
open PySem PySem.Spec L2 ML
/-! ### what is drawn -/
theorem draw_eq (ns : List Int) (k : Nat) : ∃ z : Int, ∀ S, F__law_draw [.lis (ns.map .int), .int (k : Int)] S = .ok (.int z) S := by
  by_cases h : k < ns.length
  · refine ⟨ns[k], fun S => ?_⟩
    have e : ixD (.lis (ns.map D.int)) (.int (k : Int)) S = .ok (.int ns[k]) S := x_ixD (atI_nat (by simp [h]))
    simp [F__law_draw, m__law_draw, N__law_draw, startL, h, e]
  · refine ⟨0, fun S => ?_⟩
    simp [F__law_draw, m__law_draw, N__law_draw, startL, h]
theorem spread_eq (c k : Int) (h0 : 0 ≤ k) (h1 : k ≤ 1000) : ∃ z : Int, 0 ≤ z ∧ ∀ S, F__law_spread [.int c, .int k] S = .ok (.int z) S := by
  have hk : 0 ≤ 2 * k * k ∧ 2 * k * k ≤ 2000000 := by
    have a1 : 0 ≤ 2 * k := by omega
    have a2 := Int.mul_nonneg a1 h0
    have a3 : 2 * k * k ≤ 2000 * k := Int.mul_le_mul_of_nonneg_right (by omega) h0
    omega
  refine ⟨(c + 3) * (48271 + 2 * k * k) % 2147483647, Int.emod_nonneg _ (by decide), fun S => ?_⟩
  have e1 : (2 * k).natAbs < 18446744073709551616 := by omega
  have e2 : (48271 + 2 * k * k).natAbs < 18446744073709551616 := by omega
  simp [F__law_spread, m__law_spread, N__law_spread, startL, e1, e2]
theorem draw_int (ns : List Int) (i : Int) (hi : 0 ≤ i) : ∃ z : Int, ∀ S, F__law_draw [.lis (ns.map .int), .int i] S = .ok (.int z) S := by
  obtain ⟨z, h⟩ := draw_eq ns i.toNat
  refine ⟨z, fun S => ?_⟩
  have := h S
  rwa [show ((i.toNat : Nat) : Int) = i by omega] at this
theorem nums_thing (tk : List Nat) : nums (tk.map Val.thing) = tk := by
  induction tk with
  | nil => rfl
  | cons k tk ih =>
    unfold nums at ih ⊢
    rw [List.map_cons, List.flatMap_cons, ih]
    rfl
theorem value_eq (c : Int) (V : List Nat) (hV : V.length ≤ 1000) (t : Nat) : ∃ v : Val, (∀ k ∈ v.n, k ∈ V) ∧ ∀ S, S[t]? = some (.lst (intsD V)) → ∃ Y, F__law_value [.int c, .ref t] S = .ok v.d (S ++ Y) := by
  have hne : ∀ S : Store, S[t]? = some (.lst (intsD V)) → neD (.ref t) (.ref S.length) (S ++ [.lst []]) = .ok (!decide (V = [])) (S ++ [.lst []]) := fun S h => x_neInts (l := V) (k := []) (at_app h) at_end
  have rest : ∀ (S : Store) (b : Prop), c % 5 < 3 → V = [] → True := fun _ _ _ _ => trivial
  by_cases c1 : c % 5 < 3
  · by_cases hv : V = []
    · have c2 : ¬ c % 5 = 3 := by omega
      refine ⟨.num (c / 5 % 40), fun j hj => by simp [Val.n] at hj, fun S h => ⟨[.lst []], ?_⟩⟩
      simp [F__law_value, m__law_value, N__law_value, startL, c1, c2, hne S h, hv, Val.d, sz]
    · have hl : 0 < V.length := List.length_pos_iff.mpr hv
      have b1 := Int.emod_nonneg (c / 5) (show (V.length : Int) ≠ 0 by omega)
      have b2 := Int.emod_lt_of_pos (c / 5) (show (0 : Int) < (V.length : Int) by omega)
      obtain ⟨j, ej, hj⟩ : ∃ j : Nat, c / 5 % (V.length : Int) = (j : Int) ∧ j < V.length := ⟨(c / 5 % (V.length : Int)).toNat, by omega, by omega⟩
      refine ⟨.thing V[j], fun k hk => by simp [Val.n] at hk; subst hk; exact List.getElem_mem hj, fun S h => ⟨[.lst []], ?_⟩⟩
      have e1 : lenV [.ref t] (S ++ [.lst []]) = .ok (.int (V.length : Int)) (S ++ [.lst []]) := by
        rw [x_lenR (xs := intsD V) (lstAt_of (at_app h))]
        simp [intsD]
      have e2 : ixO (S ++ [.lst []]) (.ref t) (.int (j : Int)) = some (.int (V[j] : Int)) := by
        rw [x_ixR (lstAt_of (at_app h)), L2.atI_nat (v := .int (V[j] : Int))]
        unfold intsD
        rw [List.getElem?_map, List.getElem?_eq_getElem hj]
        rfl
      simp [F__law_value, m__law_value, N__law_value, startL, c1, hne S h, hv, Val.d, sz, e1, hl, ej, x_ix, e2]
  · by_cases c2 : c % 5 = 3
    · refine ⟨.non, fun j hj => by simp [Val.n] at hj, fun S h => ⟨[], ?_⟩⟩
      simp [F__law_value, m__law_value, N__law_value, startL, c2, Val.d, sz]
    · refine ⟨.num (c / 5 % 40), fun j hj => by simp [Val.n] at hj, fun S h => ⟨[], ?_⟩⟩
      simp [F__law_value, m__law_value, N__law_value, startL, c1, c2, Val.d, sz]
theorem boxesN_eq (c : Int) (V : List Nat) (hV : V.length ≤ 1000) (t : Nat) : ∃ bx : List Nat, bx.length ≤ 2 ∧ (∀ k ∈ bx, k ∈ V) ∧ ∀ S, S[t]? = some (.lst (intsD V)) → ∃ Y, F__law_boxes [.int c, .ref t] S = .ok (.tup (intsD bx)) (S ++ Y) := by
  have hne : ∀ S : Store, S[t]? = some (.lst (intsD V)) → eqD (.ref t) (.ref S.length) (S ++ [.lst []]) = .ok (decide (V = [])) (S ++ [.lst []]) := fun S h => x_eqInts (l := V) (k := []) (at_app h) at_end
  by_cases hv : V = []
  · refine ⟨[], by simp, fun k hk => by simp at hk, fun S h => ⟨[.lst []], ?_⟩⟩
    simp [F__law_boxes, m__law_boxes, N__law_boxes, startL, hne S h, hv, sz, intsD]
  · have hl : 0 < V.length := List.length_pos_iff.mpr hv
    obtain ⟨n, en, hn1⟩ : ∃ n : Nat, c % 3 = (n : Int) ∧ n ≤ 2 := ⟨(c % 3).toNat, by omega, by omega⟩
    obtain ⟨bx, ht1, ht2, ht3⟩ := rowX (fun k : Nat => D.int (k : Int)) (fun k : Nat => k ∈ V) (i := 2) (m := binE ixD (varE 1) (binE modD (binE fdivD (binE fdivD (varE 0) (conE (.int 7))) (binE addD (conE (.int 1)) (binE mulD (conE (.int 5)) (varE 2)))) (newL lenV (consA (varE 1) (nilA))))) (l := [some (.int c), some (.ref t), none]) (n := n) (t := t) (c := .lst (intsD V)) (by omega) fun k hk => by
      obtain ⟨k0, ek0⟩ : ∃ k0 : Int, (k : Int) = k0 := ⟨_, rfl⟩
      have b1 := Int.emod_nonneg (c / 7 / (1 + 5 * k0)) (show (V.length : Int) ≠ 0 by omega)
      have b2 := Int.emod_lt_of_pos (c / 7 / (1 + 5 * k0)) (show (0 : Int) < (V.length : Int) by omega)
      obtain ⟨j, ej, hj⟩ : ∃ j : Nat, c / 7 / (1 + 5 * k0) % (V.length : Int) = (j : Int) ∧ j < V.length := ⟨(c / 7 / (1 + 5 * k0) % (V.length : Int)).toNat, by omega, by omega⟩
      refine ⟨V[j], List.getElem_mem hj, fun S h => ⟨[], ?_⟩⟩
      have e1 : lenV [.ref t] S = .ok (.int (V.length : Int)) S := by
        rw [x_lenR (xs := intsD V) (lstAt_of h)]
        simp [intsD]
      have e2 : ixO S (.ref t) (.int (j : Int)) = some (.int (V[j] : Int)) := by
        rw [x_ixR (lstAt_of h), L2.atI_nat (v := .int (V[j] : Int))]
        unfold intsD
        rw [List.getElem?_map, List.getElem?_eq_getElem hj]
        rfl
      have e3 : k0.natAbs < 18446744073709551616 := by omega
      rw [ek0]
      simp [e3, show 0 < 1 + 5 * k0 by omega, show 1 + 5 * k0 < 1073741824 by omega, e1, hl, ej, x_ix, e2]
    refine ⟨bx, by omega, ht2, fun S h => ?_⟩
    obtain ⟨Y, eY⟩ := ht3 (S ++ [.lst []]) (at_app h)
    have hr : rng1 [.int (n : Int)] (S ++ [.lst []]) = .ok (ML.intsFrom 0 n, still) (S ++ [.lst []]) := by
      rw [x_rng1 (by omega) (by omega), Int.toNat_natCast]
    have hr2 : ∀ ds S, tupL ds S = .ok (.tup ds) S := fun _ _ => rfl
    refine ⟨[.lst []] ++ Y, ?_⟩
    simp at eY
    simp [F__law_boxes, m__law_boxes, N__law_boxes, startL, hne S h, hv, sz, en, hr, Tgt.own, wipeL, eY, hr2]
    rfl
theorem thing_eq (c : Int) (V : List Nat) (hV : V.length ≤ 1000) (t : Nat) : ∃ T : Th, T.ok V ∧ ∀ S, S[t]? = some (.lst (intsD V)) → ∃ X, F__law_thing [.int c, .ref t] S = .ok T.d (S ++ X) := by
  obtain ⟨z, hz, ez⟩ := spread_eq c 1 (by omega) (by omega)
  by_cases c1 : c % 6 < 3
  · obtain ⟨v, hv, ev⟩ := value_eq z V hV t
    refine ⟨.box v, ⟨fun k hk => ?_, by simp [Th.told], trivial⟩, fun S h => ?_⟩
    · exact hv k (by simpa [Th.succ, Th.told, nums] using hk)
    · obtain ⟨Y, eY⟩ := ev S h
      exact ⟨Y, by simp [F__law_thing, m__law_thing, N__law_thing, startL, ez, c1, eY, Th.d, sz]⟩
  · by_cases c2 : c % 6 = 3
    · obtain ⟨tk, ht, hk, et⟩ := boxesN_eq (z / 300) V hV t
      refine ⟨.fn (z % 300) tk, ⟨fun k q => ?_, by simp [Th.told]; omega, trivial⟩, fun S h => ?_⟩
      · rw [Th.succ, Th.told, nums_thing] at q
        exact hk k q
      · obtain ⟨Y, eY⟩ := et S h
        exact ⟨Y, by simp [F__law_thing, m__law_thing, N__law_thing, startL, ez, c2, eY, Th.d, sz]⟩
    · by_cases c3 : c % 6 = 4
      · by_cases c4 : z % 4 = 3
        · have key : ∀ (i : Int) (s : String), z / 4 % 3 = i → atI [D.str (Str.ofString "open"), D.str (Str.ofString "open"), D.str (Str.ofString "ended")] i = some (.str (Str.ofString s)) → ∃ T : Th, T.ok V ∧ ∀ S, S[t]? = some (.lst (intsD V)) → ∃ X, F__law_thing [.int c, .ref t] S = .ok T.d (S ++ X) := fun i s hi hs => by
            obtain ⟨tk, ht, hk, et⟩ := boxesN_eq (z / 12 * if s = "open" then 1 else 0) V hV t
            refine ⟨.wt (z / 5 % 300) (.str (Str.ofString s)) [] [] tk, ⟨fun k q => ?_, by simp [Th.told]; omega, .inr ⟨s, rfl⟩⟩, fun S h => ?_⟩
            · rw [Th.succ, Th.told] at q
              simp [nums_thing] at q
              exact hk k q
            · have e1 : (if s = "open" then (1 : Int) else 0).natAbs < 18446744073709551616 := by split <;> decide
              obtain ⟨Y, eY⟩ := et (S ++ [.lst [D.str (Str.ofString "open"), D.str (Str.ofString "open"), D.str (Str.ofString "ended")]]) (at_app h)
              refine ⟨[.lst [D.str (Str.ofString "open"), D.str (Str.ofString "open"), D.str (Str.ofString "ended")]] ++ Y, ?_⟩
              simp at eY
              simp [F__law_thing, m__law_thing, N__law_thing, startL, ez, c3, c4, hi, x_ix, ixO, hs, e1, eY, Th.d, sz, intsD]
          have h3 : z / 4 % 3 = 0 ∨ z / 4 % 3 = 1 ∨ z / 4 % 3 = 2 := by omega
          rcases h3 with h3 | h3 | h3
          · exact key 0 "open" h3 rfl
          · exact key 1 "open" h3 rfl
          · exact key 2 "ended" h3 rfl
        · obtain ⟨b1, hb1, hb2, eb⟩ := boxesN_eq (z / 11) V hV t
          obtain ⟨tk, ht, hk, et⟩ := boxesN_eq (z / 13) V hV t
          obtain ⟨m, em, hm⟩ : ∃ m : Nat, z % 4 = (m : Int) ∧ m ≤ 3 := ⟨(z % 4).toNat, by omega, by omega⟩
          obtain ⟨sl, hs1, hs2, hs3⟩ := rowX Val.d (fun v : Val => ∀ k ∈ v.n, k ∈ V) (i := 5) (m := callE 2 F__law_value (consA (callE 2 F__law_spread (consA (varE 2) (consA (varE 5) (nilA)))) (consA (varE 1) (nilA)))) (l := [some (.int c), some (.ref t), some (.int z), none, none, none]) (n := m) (t := t) (c := .lst (intsD V)) (by omega) fun k hk => by
            obtain ⟨y, hy, ey⟩ := spread_eq z (k : Int) (by omega) (by omega)
            obtain ⟨v, hv, ev⟩ := value_eq y V hV t
            exact ⟨v, hv, fun S h => by
              obtain ⟨Y, eY⟩ := ev S h
              exact ⟨Y, by simp [ey, eY]⟩⟩
          refine ⟨.wt (z / 5 % 300) (.int 7) sl b1 tk, ⟨fun k q => ?_, by simp [Th.told]; omega, .inl ⟨7, rfl⟩⟩, fun S h => ?_⟩
          · rw [Th.succ, Th.told, nums_app, nums_app, nums_thing, nums_thing] at q
            simp only [List.mem_append] at q
            rcases q with (q | q) | q
            · obtain ⟨v, hv, hkv⟩ := List.mem_flatMap.mp q
              exact hs2 v hv k hkv
            · exact hb2 k q
            · exact hk k q
          · have hr : rng1 [.int (m : Int)] S = .ok (ML.intsFrom 0 m, still) S := by
              rw [x_rng1 (by omega) (by omega), Int.toNat_natCast]
            have hr2 : ∀ ds S, tupL ds S = .ok (.tup ds) S := fun _ _ => rfl
            obtain ⟨Y1, e1⟩ := hs3 S h
            obtain ⟨Y2, e2⟩ := eb (S ++ Y1) (at_app h)
            obtain ⟨Y3, e3⟩ := et (S ++ Y1 ++ Y2) (at_app (at_app h))
            refine ⟨Y1 ++ (Y2 ++ Y3), ?_⟩
            simp at e1 e2 e3
            simp [F__law_thing, m__law_thing, N__law_thing, startL, ez, c3, em, show ¬ ((m : Int) = 3) by omega, hr, Tgt.own, wipeL, e1, hr2, e2, e3, Th.d, sz]
      · obtain ⟨tk, ht, hk, et⟩ := boxesN_eq (z / 9) V hV t
        refine ⟨.lo (z % 300) tk, ⟨fun k q => ?_, by simp [Th.told]; omega, trivial⟩, fun S h => ?_⟩
        · rw [Th.succ, Th.told, nums_thing] at q
          exact hk k q
        · obtain ⟨Y, eY⟩ := et S h
          exact ⟨Y, by simp [F__law_thing, m__law_thing, N__law_thing, startL, ez, c1, c2, c3, eY, Th.d, sz]⟩
end K25

set_option Elab.async false
set_option linter.all false
set_option maxRecDepth 100000
set_option autoImplicit false
namespace K25
open PySem PySem.Spec L2 ML
/-! ### the chain -/
def chT : Nat → Th
  | 0 => .box .non
  | i + 1 => .box (.thing i)
structure Ch (m : Nat) (ps : List Tr) : Prop where
  ks : keys ps = List.range m
  at_ : ∀ p ∈ ps, p.2.1 = chT (tk p)
theorem ch_succ (i : Nat) : (chT i).succ = if i = 0 then [] else [i - 1] := by
  cases i with
  | zero => rfl
  | succ i => simp [chT, Th.succ, Th.told, nums, Val.n]
theorem Ch.good {m : Nat} {ps : List Tr} (h : Ch m ps) : Good m ps := by
  refine ⟨by rw [h.ks]; exact List.pairwise_lt_range, fun k hk => by rw [h.ks] at hk; exact List.mem_range.mp hk, fun p hp => ?_⟩
  have hk : tk p ∈ keys ps := List.mem_map.mpr ⟨p, hp, rfl⟩
  rw [h.ks] at hk ⊢
  have hk := List.mem_range.mp hk
  rw [h.at_ p hp]
  refine ⟨fun k q => ?_, ?_, ?_⟩
  · rw [ch_succ] at q
    split at q
    · simp at q
    · simp at q
      rw [List.mem_range]
      omega
  · cases tk p <;> simp [chT, Th.told]
  · cases tk p <;> trivial
theorem Ch.sc {m : Nat} {ps : List Tr} (h : Ch m ps) {k : Nat} (hk : k < m) : sc ps k = if k = 0 then [] else [k - 1] := by
  obtain ⟨p, hp, hpm, e⟩ := atK_mem (k := tk) (ps := ps) (i := k) (show k ∈ keys ps by rw [h.ks]; exact List.mem_range.mpr hk)
  unfold K25.sc
  rw [hp]
  show p.2.1.succ = _
  rw [h.at_ p hpm, e, ch_succ]
theorem Ch.reach {m a : Nat} {ps : List Tr} (h : Ch m ps) (ha : a < m) (k : Nat) : Reach (K25.sc ps) [a, 0] k ↔ k ≤ a := by
  constructor
  · intro r
    induction r with
    | base q => simp at q; omega
    | step _ e ih =>
      rw [h.sc (by omega)] at e
      split at e
      · simp at e
      · simp at e; omega
  · intro q
    have : ∀ d, d ≤ a → Reach (K25.sc ps) [a, 0] (a - d) := by
      intro d
      induction d with
      | zero => intro _; exact .base (by simp)
      | succ d ih =>
        intro hd
        refine .step (ih (by omega)) ?_
        rw [h.sc (by omega), if_neg (by omega)]
        simp
        omega
    have := this (a - k) (by omega)
    rwa [show a - (a - k) = k by omega] at this
theorem Ch.cl {m a : Nat} {ps : List Tr} (h : Ch m ps) (ha : a < m) : IsCl (K25.sc ps) [a, 0] (List.range (a + 1)) := by
  refine ⟨List.pairwise_lt_range, fun k => ?_⟩
  rw [h.reach ha, List.mem_range]
  omega
theorem cl_nil (f : Nat → List Nat) : IsCl f [] [] := ⟨List.Pairwise.nil, fun k => ⟨fun h => by simp at h, fun h => by
  have : ∀ k, ¬ Reach f [] k := fun k h => by
    induction h with
    | base h => simp at h
    | step _ _ ih => exact ih
  exact absurd h (this k)⟩⟩
theorem keep_nil (ps : List Tr) : keep ps [] = [] := by
  unfold keep
  rw [List.filter_eq_nil_iff]
  intro p _
  simp
theorem mk_heap (l : ML.Loc) (S : Store) : makeE 7 1 F_HeapXX_initXX nilA l S = .ok (.ref S.length) (S ++ [hpC (S.length + 1) 0, .dct []]) := by
  have e : insAt (S ++ [Cell.ins 7 []]) S.length = some (7, []) := insAt_end _ _ _
  have e2 : ∀ fs, insAt (S ++ [Cell.ins 7 fs, .dct []]) S.length = some (7, fs) := fun fs => insAt_of (by simp)
  have e3 : ∀ c d Y, (S ++ c :: Y).set S.length d = S ++ d :: Y := fun c d Y => set_mid _ _ _ _
  simp [F_HeapXX_initXX, m_HeapXX_initXX, N_HeapXX_initXX, startL, e, e2, e3, putD, hpC]
theorem hp_nil (S Y : Store) : HeapAt (S ++ [hpC (S.length + 1) 0, .dct []] ++ Y) S.length (S.length + 1) 0 [] := by
  have base : HeapAt (S ++ [hpC (S.length + 1) 0, .dct []]) S.length (S.length + 1) 0 [] := ⟨get_mid S _ _, get_mid1 S _ _ _, fun p hp => nomatch hp⟩
  exact base.app Y
theorem chain_put {S : Store} {j : Nat} {ps : List Tr} (H : HeapAt S 0 1 j ps) (h : Ch j ps) (hj : j < 100000) : ∃ S' ps', F_Heap_put [.ref 0, (chT j).d] S = .ok (.int (j : Int)) S' ∧ HeapAt S' 0 1 (j + 1) ps' ∧ Ch (j + 1) ps' := by
  have hl : ps.length = j := by
    have := congrArg List.length h.ks
    simpa [keys] using this
  obtain ⟨S', e, h1, _, _⟩ := put_eq H (by rw [h.ks]; simp) (by omega) (by omega) (chT j)
  refine ⟨S', _, e, h1, ⟨?_, fun p hp => ?_⟩⟩
  · unfold keys
    rw [List.map_append, List.range_succ]
    have := h.ks
    unfold keys at this
    rw [this]
    rfl
  · rcases List.mem_append.mp hp with hp | hp
    · exact h.at_ p hp
    · simp at hp; subst hp; rfl
theorem range_split {a m : Nat} (h : a < m) : (List.range m).filter (fun k => decide (k ∉ List.range (a + 1))) = (List.range (m - (a + 1))).map (· + (a + 1)) := by
  refine rising_eq (List.pairwise_lt_range.filter _) ?_ fun k => ?_
  · rw [List.pairwise_map]
    exact List.pairwise_lt_range.imp fun h => by omega
  · rw [List.mem_filter, List.mem_map]
    simp
    constructor
    · rintro ⟨h1, h2⟩
      exact ⟨k - (a + 1), by omega, by omega⟩
    · rintro ⟨b, h1, rfl⟩
      omega
noncomputable def chTl : MS := seqS (setS 4 (binE modD (binE fdivD (varE 0) (conE (.int 200))) (varE 2))) (seqS (ifS (cmpM neD (methE "collect" 2 [(7, F_Heap_collect)] (varE 1) (consA (allocE (lstN (consA (tupE (consA (conE (.str (Str.ofString "thing"))) (consA (varE 4) (nilA)))) (consA (tupE (consA (conE (.str (Str.ofString "thing"))) (consA (conE (.int 0)) (nilA)))) (nilA))))) (nilA))) (allocE (rngN2 (binE addD (varE 4) (conE (.int 1))) (varE 2)))) (retS (conE (.bl false))) (nilS)) (seqS (ifS (cmpM neD (methE "numbers" 1 [(7, F_Heap_numbers)] (varE 1) nilA) (allocE (rngN1 (binE addD (varE 4) (conE (.int 1)))))) (retS (conE (.bl false))) (nilS)) (retS (andV (ofV (toV (cmpM eqD (methE "collect" 2 [(7, F_Heap_collect)] (varE 1) (consA (allocE (lstN (nilA))) (nilA))) (allocE (rngN1 (binE addD (varE 4) (conE (.int 1)))))))) (andV (ofV (toV (cmpM eqD (methE "numbers" 1 [(7, F_Heap_numbers)] (varE 1) nilA) (allocE (lstN (nilA)))))) (toV (cmpM eqD (methE "put" 2 [(7, F_Heap_put)] (varE 1) (consA (tupE (consA (conE (.str (Str.ofString "box"))) (consA (conE .non) (nilA)))) (nilA))) (varE 2))))))))
theorem chTl_eq {c : Int} {m : Nat} {x3 : Option D} {S : Store} {ps : List Tr} (hm1 : 1000 ≤ m) (hm2 : m ≤ 1199) (hS : HeapAt S 0 1 m ps) (hc : Ch m ps) : ∃ l' S', chTl [some (.int c), some (.ref 0), some (.int (m : Int)), x3, none] S = .ok (.rt (.bl true), l') S' := by
  have b1 := Int.emod_nonneg (c / 200) (show (m : Int) ≠ 0 by omega)
  have b2 := Int.emod_lt_of_pos (c / 200) (show (0 : Int) < (m : Int) by omega)
  obtain ⟨a, ea, ha⟩ : ∃ a : Nat, c / 200 % (m : Int) = (a : Int) ∧ a < m := ⟨(c / 200 % (m : Int)).toNat, by omega, by omega⟩
  have hg := hc.good
  have hkl : (keys ps).length = m := by rw [hc.ks]; simp
  -- collect
  obtain ⟨S1, hS1⟩ : ∃ S1, S ++ [Cell.lst [(Val.thing a).d, (Val.thing 0).d]] = S1 := ⟨_, rfl⟩
  have H1 : HeapAt S1 0 1 m ps := by rw [← hS1]; exact hS.app _
  obtain ⟨S2, q2, L2, e2, g2, _, k2, H2, _, _⟩ := collect_eq (vs := [Val.thing a, Val.thing 0]) H1 (by omega) hg.ok hg.ris (by omega) (show S1[S.length]? = _ by rw [← hS1]; exact at_end) (fun k hk => by simp [nums, Val.n] at hk; rw [hc.ks, List.mem_range]; omega) (by simp)
  have hL : L2 = List.range (a + 1) := k2.uniq (hc.cl ha)
  subst hL
  have hv : ∀ k ∈ nums [Val.thing a, Val.thing 0], k ∈ keys ps := fun k hk => by simp [nums, Val.n] at hk; rw [hc.ks, List.mem_range]; omega
  rw [hc.ks, range_split ha] at g2
  have er : rngO ((a : Int) + 1) (m : Int) S2 = .ok (intsD ((List.range (m - (a + 1))).map (· + (a + 1)))) S2 := by
    unfold rngO
    rw [if_pos ⟨by omega, by omega, by omega, by omega, by omega⟩, show ((m : Int) - ((a : Int) + 1)).toNat = m - (a + 1) by omega]
    congr 1
    unfold ML.intsFrom intsD
    rw [List.map_map]
    refine List.map_congr_left fun k _ => ?_
    simp only [Function.comp]
    congr 1
    omega
  obtain ⟨S3, hS3⟩ : ∃ S3, S2 ++ [Cell.lst (intsD ((List.range (m - (a + 1))).map (· + (a + 1))))] = S3 := ⟨_, rfl⟩
  have H3 : HeapAt S3 0 1 m (keep ps (List.range (a + 1))) := by rw [← hS3]; exact H2.app _
  have e3 := x_neInts (S := S3) (n := q2) (m := S2.length) (by rw [← hS3]; exact at_app g2) (by rw [← hS3]; exact at_end)
  rw [decide_eq_true rfl] at e3
  -- numbers
  have hg3 := hg.keep hv k2
  have hk3 : keys (keep ps (List.range (a + 1))) = List.range (a + 1) := rising_eq hg3.ris List.pairwise_lt_range fun k => mem_keep hg hv k2
  have e4 := numbers_eq H3 hg3.ris
  rw [hk3] at e4
  obtain ⟨S4, hS4⟩ : ∃ S4, S3 ++ [Cell.lst (intsD (List.range (a + 1)))] = S4 := ⟨_, rfl⟩
  rw [hS4] at e4
  have H4 : HeapAt S4 0 1 m (keep ps (List.range (a + 1))) := by rw [← hS4]; exact H3.app _
  have e5 : ∀ S, rngO 0 ((a : Int) + 1) S = .ok (intsD (List.range (a + 1))) S := fun S => by
    have := x_rngO (n := a + 1) (S := S) (by omega)
    rwa [show ((a + 1 : Nat) : Int) = (a : Int) + 1 by omega] at this
  obtain ⟨S5, hS5⟩ : ∃ S5, S4 ++ [Cell.lst (intsD (List.range (a + 1)))] = S5 := ⟨_, rfl⟩
  have H5 : HeapAt S5 0 1 m (keep ps (List.range (a + 1))) := by rw [← hS5]; exact H4.app _
  have e6 := x_neInts (S := S5) (n := S3.length) (m := S4.length) (l := List.range (a + 1)) (k := List.range (a + 1)) (by rw [← hS5, ← hS4]; exact at_app at_end) (by rw [← hS5]; exact at_end)
  rw [decide_eq_true rfl] at e6
  -- collect all
  obtain ⟨S6, hS6⟩ : ∃ S6, S5 ++ [Cell.lst []] = S6 := ⟨_, rfl⟩
  have H6 : HeapAt S6 0 1 m (keep ps (List.range (a + 1))) := by rw [← hS6]; exact H5.app _
  obtain ⟨S7, q7, L7, e7, g7, _, k7, H7, _, _⟩ := collect_eq (vs := []) H6 (by omega) hg3.ok hg3.ris (by rw [hk3]; simp; omega) (show S6[S5.length]? = _ by rw [← hS6]; exact at_end) (fun k hk => by simp [nums] at hk) (by simp)
  have hL : L7 = [] := k7.uniq (cl_nil _)
  subst hL
  have hall : ((List.range (a + 1)).filter fun k => decide (k ∉ ([] : List Nat))) = List.range (a + 1) := List.filter_eq_self.mpr fun k _ => by simp
  rw [hk3, hall] at g7
  have H7 : HeapAt S7 0 1 m [] := by
    have h := H7
    have e : ((keep ps (List.range (a + 1))).filter fun p => decide (tk p ∈ ([] : List Nat))) = [] := keep_nil _
    rw [e] at h
    exact h
  obtain ⟨S8, hS8⟩ : ∃ S8, S7 ++ [Cell.lst (intsD (List.range (a + 1)))] = S8 := ⟨_, rfl⟩
  have H8 : HeapAt S8 0 1 m [] := by rw [← hS8]; exact H7.app _
  have e8 := x_eqInts (S := S8) (n := q7) (m := S7.length) (l := List.range (a + 1)) (k := List.range (a + 1)) (by rw [← hS8]; exact at_app g7) (by rw [← hS8]; exact at_end)
  rw [decide_eq_true rfl] at e8
  have e9 := numbers_eq H8 (by exact List.Pairwise.nil)
  have e9 : F_Heap_numbers [.ref 0] S8 = .ok (.ref S8.length) (S8 ++ [.lst []]) := e9
  obtain ⟨S9, hS9⟩ : ∃ S9, S8 ++ [Cell.lst []] = S9 := ⟨_, rfl⟩
  rw [hS9] at e9
  obtain ⟨S10, hS10⟩ : ∃ S10, S9 ++ [Cell.lst []] = S10 := ⟨_, rfl⟩
  have e10 := x_eqInts (S := S10) (n := S8.length) (m := S9.length) (l := []) (k := []) (by rw [← hS10, ← hS9]; exact at_app at_end) (by rw [← hS10]; exact at_end)
  rw [decide_eq_true rfl] at e10
  have H10 : HeapAt S10 0 1 m [] := by rw [← hS10, ← hS9]; exact (H8.app _).app _
  obtain ⟨S11, e11, _, _, _⟩ := put_eq H10 (by simp [keys]) (by simp) (by omega) (.box .non)
  have dd : (Th.box .non).d = .tup [.str (Str.ofString "box"), .non] := rfl
  rw [dd] at e11
  have da : D.tup [.str (Str.ofString "thing"), .int (a : Int)] = (Val.thing a).d := rfl
  have da0 : D.tup [.str (Str.ofString "thing"), .int 0] = (Val.thing 0).d := rfl
  have i1 := H1.ins
  have i2 := hS.ins
  have i3 := H3.ins
  have i5 := H5.ins
  have i8 := H8.ins
  have i10 := H10.ins
  refine ⟨[some (.int c), some (.ref 0), some (.int (m : Int)), x3, some (.int (a : Int))], S11, ?_⟩
  unfold chTl
  simp [ea, show 0 < m by omega, i2, List.lookup, beq_of, R.noex, da, da0, sz, hS1, e2, er, hS3, e3, i3, e4, e5, hS5, e6, i5, hS6, e7, hS8, e8, i8, e9, hS10, e10, i10, e11]
theorem chain_eq (c : Int) : ∃ S', F__law_chain [.int c] [] = .ok (.bl true) S' := by
  obtain ⟨m, em, hm1, hm2⟩ : ∃ m : Nat, 1000 + c % 200 = (m : Int) ∧ 1000 ≤ m ∧ m ≤ 1199 := ⟨(1000 + c % 200).toNat, by omega, by omega, by omega⟩
  have H0 := hp_nil [] []
  obtain ⟨S1, ps1, e1, h1, c1⟩ := chain_put (S := [hpC 1 0, .dct []]) (j := 0) (ps := []) H0 ⟨rfl, fun p hp => by simp at hp⟩ (by omega)
  have d0 : (chT 0).d = .tup [.str (Str.ofString "box"), .non] := rfl
  rw [d0] at e1
  have i0 : insAt [hpC 1 0, Cell.dct []] 0 = some (7, [(Str.ofString "there", .ref 1), (Str.ofString "count", .int ((0 : Nat) : Int))]) := rfl
  have em0 : makeE 7 1 F_HeapXX_initXX nilA [some (.int c), none, none, none, none] [] = .ok (.ref 0) [hpC 1 0, .dct []] := mk_heap [some (.int c), none, none, none, none] []
  have hl : (ML.intsFrom 1 (m - 1)).length = m - 1 := by simp [ML.intsFrom]
  have := forS_inv (chk := still) (t := nameT 3) (b := b__law_chain_0) (ds := ML.intsFrom 1 (m - 1)) (l := [some (.int c), some (.ref 0), some (.int (m : Int)), none, none]) (S := S1)
    (Q := fun p S => p.1 = .nx ∧ ∃ x3 ps, p.2 = [some (.int c), some (.ref 0), some (.int (m : Int)), x3, none] ∧ HeapAt S 0 1 m ps ∧ Ch m ps)
    (fun k l S => ∃ x3 ps, l = [some (.int c), some (.ref 0), some (.int (m : Int)), x3, none] ∧ HeapAt S 0 1 (1 + k) ps ∧ Ch (1 + k) ps) ⟨_, ps1, rfl, h1, c1⟩ (fun _ _ _ _ => trivial) (by
      rintro k d l S ⟨x3, ps, rfl, hS, hc⟩ hd
      obtain ⟨hk1, rfl⟩ := ints_at hd
      obtain ⟨S', ps', e, h', c'⟩ := chain_put hS hc (by omega)
      have dk : (chT (1 + k)).d = .tup [.str (Str.ofString "box"), .tup [.str (Str.ofString "thing"), .int (k : Int)]] := by
        rw [Nat.add_comm]
        rfl
      rw [dk] at e
      have i1 := hS.ins
      simp [b__law_chain_0, i1, List.lookup, beq_of, R.noex, sz, e, show (1 : Int) + (k : Int) - 1 = (k : Int) by omega]
      rw [show 1 + (k + 1) = 1 + k + 1 by omega]
      exact ⟨ps', h', c'⟩) (by
      rintro l S ⟨x3, ps, rfl, hS, hc⟩
      rw [hl, show 1 + (m - 1) = m by omega] at hS hc
      exact ⟨rfl, _, _, rfl, hS, hc⟩)
  obtain ⟨⟨fl, l'⟩, S2, e2, ef, x3, ps, el, hS, hc⟩ := this.of
  subst ef
  simp only at el
  subst el
  obtain ⟨l2, S3, e3⟩ := chTl_eq (c := c) (x3 := x3) hm1 hm2 hS hc
  have hr := x_rng2 (i := 1) (j := (m : Int)) (S := S1) (by omega) (by omega) (by omega) (by omega)
  rw [show ((m : Int) - 1).toNat = m - 1 by omega] at hr
  refine ⟨S3, ?_⟩
  have et : m__law_chain = seqS (setS 1 (makeE 7 1 F_HeapXX_initXX nilA)) (seqS (setS 2 (binE addD (conE (.int 1000)) (binE modD (varE 0) (conE (.int 200))))) (seqS (exprS (methE "put" 2 [(7, F_Heap_put)] (varE 1) (consA (tupE (consA (conE (.str (Str.ofString "box"))) (consA (conE .non) (nilA)))) (nilA)))) (seqS (forS (srcR2 (consA (conE (.int 1)) (consA (varE 2) (nilA)))) (nameT 3) (b__law_chain_0)) chTl))) := rfl
  simp only [F__law_chain, et, N__law_chain, x_bodyF, startL]
  simp [-x_makeE, em0, em, i0, List.lookup, beq_of, R.noex, sz, e1, hr, e2, e3]
end K25

set_option Elab.async false
set_option linter.all false
set_option maxRecDepth 100000
set_option autoImplicit false
namespace K25
open PySem PySem.Spec L2 ML
noncomputable def brA : MS := seqS (setS 10 (callE 2 F__law_thing (consA (binE fdivD (varE 5) (conE (.int 16))) (consA (varE 7) (nilA))))) (seqS (ifS (cmpM neD (methE "put" 2 [(7, F_Heap_put)] (binE ixD (varE 1) (varE 6)) (consA (varE 10) (nilA))) (binE ixD (varE 3) (varE 6))) (retS (conE (.bl false))) (nilS)) (seqS (asgS (subT (binE ixD (varE 2) (varE 6)) (binE ixD (varE 3) (varE 6))) (varE 10)) (asgS (subT (varE 3) (varE 6)) (binE addD (binE ixD (varE 3) (varE 6)) (conE (.int 1))))))
noncomputable def brB : MS := seqS (setS 11 (binE ixD (varE 7) (binE modD (binE fdivD (varE 5) (conE (.int 16))) (newL lenV (consA (varE 7) (nilA)))))) (seqS (asgS (subT (binE ixD (varE 2) (varE 6)) (varE 11)) (callE 2 F__law_thing (consA (binE fdivD (varE 5) (conE (.int 1024))) (consA (varE 7) (nilA))))) (exprS (methE "change" 3 [(7, F_Heap_change)] (binE ixD (varE 1) (varE 6)) (consA (varE 11) (consA (binE ixD (binE ixD (varE 2) (varE 6)) (varE 11)) (nilA))))))
noncomputable def brC : MS := seqS (setS 12 (allocE (compN (srcR1 (consA (binE modD (binE fdivD (varE 5) (conE (.int 16))) (conE (.int 4))) (nilA))) (.one 9) (yesM) (callE 2 F__law_value (consA (callE 2 F__law_spread (consA (varE 5) (consA (binE addD (conE (.int 3)) (varE 9)) (nilA)))) (consA (varE 7) (nilA))))))) (seqS (exprS (lmE appendM (varE 4) (consA (tupE (consA (methE "numbers" 1 [(7, F_Heap_numbers)] (binE ixD (varE 1) (varE 6)) nilA) (consA (varE 7) (nilA)))) (nilA)))) (ifS (notM (ofV (callE 4 F__law_collected (consA (binE ixD (varE 1) (varE 6)) (consA (binE ixD (varE 2) (varE 6)) (consA (varE 12) (consA (varE 4) (nilA)))))))) (retS (conE (.bl false))) (nilS)))
noncomputable def brD : MS := forS (srcV (binE ixD (allocE (lstN (consA (allocE (lstN (consA (conE (.int 0)) (consA (conE (.int 1)) (nilA))))) (consA (allocE (lstN (consA (conE (.int 1)) (consA (conE (.int 0)) (nilA))))) (nilA))))) (binE modD (binE fdivD (varE 5) (conE (.int 64))) (conE (.int 2))))) (nameT 9) (b_law_1)
theorem b_law_0_eq : b_law_0 = seqS (setS 5 (callE 2 F__law_spread (consA (varE 5) (consA (conE (.int 0)) (nilA))))) (seqS (setS 6 (binE modD (varE 5) (conE (.int 2)))) (seqS (setS 7 (allocE (newL sortL (newL listV (consA (binE ixD (varE 2) (varE 6)) (nilA)))))) (seqS (setS 8 (binE modD (binE fdivD (varE 5) (conE (.int 2))) (conE (.int 8)))) (seqS (ifS (orM (cmpM ltD (varE 8) (conE (.int 4))) (cmpM eqD (varE 7) (allocE (lstN (nilA))))) brA (ifS (cmpM ltD (varE 8) (conE (.int 6))) brB brC)) brD)))) := rfl
/-! ### the state -/
structure St (its : List D) (S : Store) (P : Nat → List Tr) (N : Nat → Nat) (held : List (Nat × Nat)) : Prop where
  hp : ∀ s, s < 2 → HeapAt S (2 * s) (2 * s + 1) (N s) (P s)
  tt : ∀ s, s < 2 → S[5 + s]? = some (.dct (dK tk tD (P s)))
  l4 : S[4]? = some (.lst [.ref 0, .ref 2])
  l7 : S[7]? = some (.lst [.ref 5, .ref 6])
  l8 : S[8]? = some (.lst [.int (N 0 : Int), .int (N 1 : Int)])
  l9 : S[9]? = some (.lst (held.map fun p => .tup [.ref p.1, .ref p.2]))
  he : ∀ p ∈ held, ∃ L, S[p.1]? = some (.lst (intsD L)) ∧ S[p.2]? = some (.lst (intsD L)) ∧ 10 ≤ p.1 ∧ 10 ≤ p.2
  gd : ∀ s, s < 2 → Good (N s) (P s)
  it : S[10]? = some (.lst its)
theorem HeapAt.fr {S S' : Store} {h d n : Nat} {ps : List Tr} (H : HeapAt S h d n ps) (bad : Nat → Prop) (hf : ∀ i c, S[i]? = some c → ¬ bad i → S'[i]? = some c) (h1 : ¬ bad h) (h2 : ¬ bad d) (h3 : ∀ (i : Nat) (T : Th), bad i → S[i]? ≠ some T.cell) : HeapAt S' h d n ps :=
  ⟨hf _ _ H.h1 h1, hf _ _ H.h2 h2, fun p hp => hf _ _ (H.h3 p hp) fun b => h3 _ _ b (H.h3 p hp)⟩
section
variable {its : List D} {S : Store} {P : Nat → List Tr} {N : Nat → Nat} {held : List (Nat × Nat)}
theorem St.app (h : St its S P N held) (X : Store) : St its (S ++ X) P N held :=
  ⟨fun s hs => (h.hp s hs).app X, fun s hs => at_app (h.tt s hs), at_app h.l4, at_app h.l7, at_app h.l8, at_app h.l9, fun p hp => by
    obtain ⟨L, a, b, c, d⟩ := h.he p hp
    exact ⟨L, at_app a, at_app b, c, d⟩, h.gd, at_app h.it⟩
theorem St.ix4 (h : St its S P N held) {s : Nat} (hs : s < 2) : ixO S (.ref 4) (.int (s : Int)) = some (.ref (2 * s)) := by
  rw [x_ixR (lstAt_of h.l4)]
  have : s = 0 ∨ s = 1 := by omega
  rcases this with rfl | rfl <;> rfl
theorem St.ix7 (h : St its S P N held) {s : Nat} (hs : s < 2) : ixO S (.ref 7) (.int (s : Int)) = some (.ref (5 + s)) := by
  rw [x_ixR (lstAt_of h.l7)]
  have : s = 0 ∨ s = 1 := by omega
  rcases this with rfl | rfl <;> rfl
theorem St.ix8 (h : St its S P N held) {s : Nat} (hs : s < 2) : ixO S (.ref 8) (.int (s : Int)) = some (.int (N s : Int)) := by
  rw [x_ixR (lstAt_of h.l8)]
  have : s = 0 ∨ s = 1 := by omega
  rcases this with rfl | rfl <;> rfl
end
abbrev LB (sc : D) (x5 x6 x7 x8 x9 x10 x11 x12 : Option D) : ML.Loc := [some sc, some (.ref 4), some (.ref 7), some (.ref 8), some (.ref 9), x5, x6, x7, x8, x9, x10, x11, x12, none, none]
/-- what a turn may do to the rest -/
def upd {α : Type} (f : Nat → α) (s : Nat) (x : α) : Nat → α := fun i => if i = s then x else f i
theorem turnA {its : List D} {ns : List Int} {S : Store} {P : Nat → List Tr} {N : Nat → Nat} {held : List (Nat × Nat)} {y : Int} {s r : Nat} {x8 x9 x10 x11 x12 : Option D} (h : St its S P N held) (hs : s < 2) (hr : S[r]? = some (.lst (intsD (keys (P s))))) (hn : N s ≤ 1000) :
    ∃ S' T ref, brA (LB (.lis (ns.map .int)) (some (.int y)) (some (.int (s : Int))) (some (.ref r)) x8 x9 x10 x11 x12) S = .ok (.nx, LB (.lis (ns.map .int)) (some (.int y)) (some (.int (s : Int))) (some (.ref r)) x8 x9 (some (Th.d T)) x11 x12) S' ∧ St its S' (upd P s (P s ++ [(N s, T, ref)])) (upd N s (N s + 1)) held := by
  have hg := h.gd s hs
  have hlen := ris_len hg.ris hg.lt
  have hpl : (P s).length = (keys (P s)).length := by unfold keys; rw [List.length_map]
  obtain ⟨T, hT, eT⟩ := thing_eq (y / 16) (keys (P s)) (by omega) r
  obtain ⟨X, e1⟩ := eT S hr
  obtain ⟨S1, hS1⟩ : ∃ S1, S ++ X = S1 := ⟨_, rfl⟩
  rw [hS1] at e1
  have h1 : St its S1 P N held := by rw [← hS1]; exact h.app X
  have hnk : N s ∉ keys (P s) := fun q => by have := hg.lt _ q; omega
  obtain ⟨S2, e2, H2, l2, f2⟩ := put_eq (h1.hp s hs) hnk (by omega) (by omega) T
  obtain ⟨ref, hre⟩ : ∃ ref, S1.length = ref := ⟨_, rfl⟩
  rw [hre] at H2
  have k4 : S2[4]? = _ := f2 _ _ h1.l4 (by omega) (by omega)
  have k7 : S2[7]? = _ := f2 _ _ h1.l7 (by omega) (by omega)
  have k8 : S2[8]? = _ := f2 _ _ h1.l8 (by omega) (by omega)
  have kt : ∀ i, i < 2 → S2[5 + i]? = some (.dct (dK tk tD (P i))) := fun i hi => f2 _ _ (h1.tt i hi) (by omega) (by omega)
  have e3 : ixO S2 (.ref 8) (.int (s : Int)) = some (.int (N s : Int)) := by
    rw [x_ixR (lstAt_of k8)]
    have : s = 0 ∨ s = 1 := by omega
    rcases this with rfl | rfl <;> rfl
  have e4 : ixO S2 (.ref 7) (.int (s : Int)) = some (.ref (5 + s)) := by
    rw [x_ixR (lstAt_of k7)]
    have : s = 0 ∨ s = 1 := by omega
    rcases this with rfl | rfl <;> rfl
  have e5 := x_setDict (k := N s) (v := T.d) (kt s hs) (by rw [dK_len]; omega)
  have e6 : dPut (dK tk tD (P s)) (.inl (N s : Int)) T.d = dK tk tD (P s ++ [(N s, T, ref)]) := dK_put (k := tk) (f := tD) (q := ((N s, T, ref) : Tr)) hnk
  rw [e6] at e5
  obtain ⟨S3, hS3⟩ : ∃ S3, S2.set (5 + s) (.dct (dK tk tD (P s ++ [(N s, T, ref)]))) = S3 := ⟨_, rfl⟩
  rw [hS3] at e5
  have k83 : S3[8]? = some (.lst [.int (N 0 : Int), .int (N 1 : Int)]) := by rw [← hS3, get_set_ne (by omega)]; exact k8
  have e7 : ixO S3 (.ref 8) (.int (s : Int)) = some (.int (N s : Int)) := by
    rw [x_ixR (lstAt_of k83)]
    have : s = 0 ∨ s = 1 := by omega
    rcases this with rfl | rfl <;> rfl
  have e8 := x_setLst (k := s) (v := .int ((N s : Int) + 1)) k83 (by simpa using hs)
  obtain ⟨S4, hS4⟩ : ∃ S4, S3.set 8 (.lst ([D.int (N 0 : Int), .int (N 1 : Int)].set s (.int ((N s : Int) + 1)))) = S4 := ⟨_, rfl⟩
  rw [hS4] at e8
  have f4 : ∀ {i c}, S2[i]? = some c → i ≠ 5 + s → i ≠ 8 → S4[i]? = some c := fun hc a b => by rw [← hS4, get_set_ne (Ne.symm b), ← hS3, get_set_ne (Ne.symm a)]; exact hc
  have i1 := (h1.hp s hs).ins
  have x4 := h1.ix4 hs
  refine ⟨S4, T, ref, ?_, ⟨fun i hi => ?_, fun i hi => ?_, f4 k4 (by omega) (by omega), f4 k7 (by omega) (by omega), ?_, f4 (f2 _ _ h1.l9 (by omega) (by omega)) (by omega) (by omega), fun p hp => ?_, fun i hi => ?_, f4 (f2 _ _ h1.it (by omega) (by omega)) (by omega) (by omega)⟩⟩
  · unfold brA
    simp [e1, x_ix, x4, i1, List.lookup, beq_of, R.noex, e2, e3, e4, e5, e7, e8]
  · unfold upd
    by_cases q : i = s
    · subst q
      rw [if_pos rfl, if_pos rfl]
      have a1 := H2.set (c' := .dct (dK tk tD (P i ++ [(N i, T, ref)]))) (kt i hs) (by omega) (by omega) (fun T => cell_dct T _)
      rw [hS3] at a1
      have a2 := a1.set (c' := .lst ([D.int (N 0 : Int), .int (N 1 : Int)].set i (.int ((N i : Int) + 1)))) k83 (by omega) (by omega) (fun T => cell_lst T _)
      rw [hS4] at a2
      exact a2
    · rw [if_neg q, if_neg q]
      refine (h1.hp i hi).fr (fun j => j = 2 * s ∨ j = 2 * s + 1 ∨ j = 5 + s ∨ j = 8) (fun j c hc hb => f4 (f2 _ _ hc (by omega) (by omega)) (by omega) (by omega)) (by omega) (by omega) fun j U hb => ?_
      rcases hb with rfl | rfl | rfl | rfl
      · rw [(h1.hp s hs).h1]; exact fun z => cell_hp _ _ _ (Option.some.inj z).symm
      · rw [(h1.hp s hs).h2]; exact fun z => cell_dct _ _ (Option.some.inj z).symm
      · rw [h1.tt s hs]; exact fun z => cell_dct _ _ (Option.some.inj z).symm
      · rw [h1.l8]; exact fun z => cell_lst _ _ (Option.some.inj z).symm
  · unfold upd
    by_cases q : i = s
    · subst q
      rw [if_pos rfl, ← hS4, get_set_ne (by omega), ← hS3, get_set_at (kt i hs)]
    · rw [if_neg q]
      exact f4 (kt i hi) (by omega) (by omega)
  · rw [← hS4, get_set_at k83]
    unfold upd
    have : s = 0 ∨ s = 1 := by omega
    rcases this with rfl | rfl <;> simp
  · obtain ⟨L, b1, b2, b3, b4⟩ := h1.he p hp
    exact ⟨L, f4 (f2 _ _ b1 (by omega) (by omega)) (by omega) (by omega), f4 (f2 _ _ b2 (by omega) (by omega)) (by omega) (by omega), b3, b4⟩
  · unfold upd
    by_cases q : i = s
    · subst q
      rw [if_pos rfl, if_pos rfl]
      have hk : keys (P i ++ [(N i, T, ref)]) = keys (P i) ++ [N i] := by unfold keys; rw [List.map_append]; rfl
      refine ⟨by rw [hk, List.pairwise_append]; exact ⟨hg.ris, by simp, fun a ha b hb => by simp at hb; subst hb; exact hg.lt a ha⟩, fun k hk' => ?_, fun p hp => ?_⟩
      · rw [hk] at hk'
        rcases List.mem_append.mp hk' with q | q
        · have := hg.lt k q; omega
        · simp at q; omega
      · rw [hk]
        have mono : ∀ U : Th, U.ok (keys (P i)) → U.ok (keys (P i) ++ [N i]) := fun U hU => ⟨fun k hk => List.mem_append.mpr (.inl (hU.1 k hk)), hU.2⟩
        rcases List.mem_append.mp hp with q | q
        · exact mono _ (hg.ok p q)
        · simp at q; subst q; exact mono _ hT
    · rw [if_neg q, if_neg q]
      exact h1.gd i hi
end K25

set_option Elab.async false
set_option linter.all false
set_option maxRecDepth 100000
set_option autoImplicit false
namespace K25
open PySem PySem.Spec L2 ML
def chg (ps : List Tr) (k : Nat) (T : Th) (ref : Nat) : List Tr := ps.map fun p => if tk p = k then (k, T, ref) else p
theorem chg_keys (ps : List Tr) (k : Nat) (T : Th) (ref : Nat) : keys (chg ps k T ref) = keys ps := by
  unfold keys chg
  rw [List.map_map]
  refine List.map_congr_left fun p _ => ?_
  show tk (if tk p = k then (k, T, ref) else p) = tk p
  split
  · rename_i h; rw [h]; rfl
  · rfl
theorem chg_at {ps : List Tr} {k : Nat} (T : Th) (ref : Nat) (hk : k ∈ keys ps) : (atK tk (chg ps k T ref) k).map tD = some T.d := by
  obtain ⟨p, h1, h2, h3⟩ := atK_mem (k := tk) (ps := chg ps k T ref) (i := k) (show k ∈ keys (chg ps k T ref) by rw [chg_keys]; exact hk)
  rw [h1]
  unfold chg at h2
  obtain ⟨q, hq, e⟩ := List.mem_map.mp h2
  split at e
  · subst e; rfl
  · rename_i ne; subst e; exact absurd h3 ne
theorem Good.chg {n k : Nat} {ps : List Tr} {T : Th} (hg : Good n ps) (hT : T.ok (keys ps)) (ref : Nat) : Good n (chg ps k T ref) := by
  refine ⟨by rw [chg_keys]; exact hg.ris, by rw [chg_keys]; exact hg.lt, fun p hp => ?_⟩
  rw [chg_keys]
  unfold K25.chg at hp
  obtain ⟨q, hq, e⟩ := List.mem_map.mp hp
  split at e
  · subst e; exact hT
  · subst e; exact hg.ok q hq
theorem turnB {its : List D} {ns : List Int} {S : Store} {P : Nat → List Tr} {N : Nat → Nat} {held : List (Nat × Nat)} {y : Int} {s r : Nat} {x8 x9 x10 x11 x12 : Option D} (h : St its S P N held) (hs : s < 2) (hr : S[r]? = some (.lst (intsD (keys (P s))))) (hn : N s ≤ 1000) (hv : keys (P s) ≠ []) :
    ∃ S' ps y11, brB (LB (.lis (ns.map .int)) (some (.int y)) (some (.int (s : Int))) (some (.ref r)) x8 x9 x10 x11 x12) S = .ok (.nx, LB (.lis (ns.map .int)) (some (.int y)) (some (.int (s : Int))) (some (.ref r)) x8 x9 x10 y11 x12) S' ∧ St its S' (upd P s ps) N held := by
  have hg := h.gd s hs
  have hlen := ris_len hg.ris hg.lt
  have hpl : (P s).length = (keys (P s)).length := by unfold keys; rw [List.length_map]
  have hl : 0 < (keys (P s)).length := List.length_pos_iff.mpr hv
  have b1 := Int.emod_nonneg (y / 16) (show ((keys (P s)).length : Int) ≠ 0 by omega)
  have b2 := Int.emod_lt_of_pos (y / 16) (show (0 : Int) < ((keys (P s)).length : Int) by omega)
  obtain ⟨j, ej, hj⟩ : ∃ j : Nat, y / 16 % ((keys (P s)).length : Int) = (j : Int) ∧ j < (keys (P s)).length := ⟨(y / 16 % ((keys (P s)).length : Int)).toNat, by omega, by omega⟩
  obtain ⟨k, hk⟩ : ∃ k, (keys (P s))[j] = k := ⟨_, rfl⟩
  have hkm : k ∈ keys (P s) := by rw [← hk]; exact List.getElem_mem hj
  have e1 : lenV [.ref r] S = .ok (.int ((keys (P s)).length : Int)) S := by
    rw [x_lenR (xs := intsD (keys (P s))) (lstAt_of hr)]
    simp [intsD]
  have e2 : ixO S (.ref r) (.int (j : Int)) = some (.int (k : Int)) := by
    rw [x_ixR (lstAt_of hr), L2.atI_nat (v := .int (k : Int))]
    unfold intsD
    rw [List.getElem?_map, List.getElem?_eq_getElem hj, hk]
    rfl
  obtain ⟨T, hT, eT⟩ := thing_eq (y / 1024) (keys (P s)) (by omega) r
  obtain ⟨X, e3⟩ := eT S hr
  obtain ⟨S1, hS1⟩ : ∃ S1, S ++ X = S1 := ⟨_, rfl⟩
  rw [hS1] at e3
  have h1 : St its S1 P N held := by rw [← hS1]; exact h.app X
  have e4 := h1.ix7 hs
  obtain ⟨ref, hre⟩ : ∃ ref, S1.length = ref := ⟨_, rfl⟩
  have e5 := x_setDict (k := k) (v := T.d) (h1.tt s hs) (by rw [dK_len]; omega)
  have e6 : dPut (dK tk tD (P s)) (.inl (k : Int)) T.d = dK tk tD (chg (P s) k T ref) := dK_set (k := tk) (f := tD) (q := ((k, T, ref) : Tr)) hkm
  rw [e6] at e5
  obtain ⟨S2, hS2⟩ : ∃ S2, S1.set (5 + s) (.dct (dK tk tD (chg (P s) k T ref))) = S2 := ⟨_, rfl⟩
  rw [hS2] at e5
  have l2 : S2.length = ref := by rw [← hS2, List.length_set]; exact hre
  have f2 : ∀ {i c}, S1[i]? = some c → i ≠ 5 + s → S2[i]? = some c := fun hc a => by rw [← hS2, get_set_ne (Ne.symm a)]; exact hc
  have t2 : S2[5 + s]? = some (.dct (dK tk tD (chg (P s) k T ref))) := by rw [← hS2, get_set_at (h1.tt s hs)]
  have H2 : HeapAt S2 (2 * s) (2 * s + 1) (N s) (P s) := by
    rw [← hS2]
    exact (h1.hp s hs).set (h1.tt s hs) (by omega) (by omega) (fun T => cell_dct T _)
  obtain ⟨S3, e7, H3, l3, f3⟩ := change_eq H2 hkm (by omega) (by omega) T
  rw [l2] at H3
  have k4 : S2[4]? = _ := f2 h1.l4 (by omega)
  have k7 : S2[7]? = _ := f2 h1.l7 (by omega)
  have e8 : ixO S2 (.ref 4) (.int (s : Int)) = some (.ref (2 * s)) := by
    rw [x_ixR (lstAt_of k4)]
    have : s = 0 ∨ s = 1 := by omega
    rcases this with rfl | rfl <;> rfl
  have e9 : ixO S2 (.ref 7) (.int (s : Int)) = some (.ref (5 + s)) := by
    rw [x_ixR (lstAt_of k7)]
    have : s = 0 ∨ s = 1 := by omega
    rcases this with rfl | rfl <;> rfl
  have e10 : ixO S2 (.ref (5 + s)) (.int (k : Int)) = some T.d := by
    rw [x_ixDict t2, dK_look]
    exact chg_at T ref hkm
  have i2 := H2.ins
  have f4 : ∀ {i c}, S1[i]? = some c → i ≠ 5 + s → i ≠ 2 * s → i ≠ 2 * s + 1 → S3[i]? = some c := fun hc a b d => f3 _ _ (f2 hc a) b d
  refine ⟨S3, chg (P s) k T ref, some (.int (k : Int)), ?_, ⟨fun i hi => ?_, fun i hi => ?_, f4 h1.l4 (by omega) (by omega) (by omega), f4 h1.l7 (by omega) (by omega) (by omega), f4 h1.l8 (by omega) (by omega) (by omega), f4 h1.l9 (by omega) (by omega) (by omega), fun p hp => ?_, fun i hi => ?_, f4 h1.it (by omega) (by omega) (by omega)⟩⟩
  · unfold brB
    simp [e1, hl, ej, x_ix, e2, e3, hS1, e4, e5, e8, e9, e10, i2, List.lookup, beq_of, R.noex, e7]
  · unfold upd
    by_cases q : i = s
    · subst q
      rw [if_pos rfl]
      exact H3
    · rw [if_neg q]
      refine (h1.hp i hi).fr (fun j => j = 2 * s ∨ j = 2 * s + 1 ∨ j = 5 + s) (fun j c hc hb => f4 hc (by omega) (by omega) (by omega)) (by omega) (by omega) fun j U hb => ?_
      rcases hb with rfl | rfl | rfl
      · rw [(h1.hp s hs).h1]; exact fun z => cell_hp _ _ _ (Option.some.inj z).symm
      · rw [(h1.hp s hs).h2]; exact fun z => cell_dct _ _ (Option.some.inj z).symm
      · rw [h1.tt s hs]; exact fun z => cell_dct _ _ (Option.some.inj z).symm
  · unfold upd
    by_cases q : i = s
    · subst q
      rw [if_pos rfl]
      exact f3 _ _ t2 (by omega) (by omega)
    · rw [if_neg q]
      exact f4 (h1.tt i hi) (by omega) (by omega) (by omega)
  · obtain ⟨L, b1, b2, b3, b4⟩ := h1.he p hp
    exact ⟨L, f4 b1 (by omega) (by omega) (by omega), f4 b2 (by omega) (by omega) (by omega), b3, b4⟩
  · unfold upd
    by_cases q : i = s
    · subst q
      rw [if_pos rfl]
      exact hg.chg hT ref
    · rw [if_neg q]
      exact h1.gd i hi
theorem turnC {its : List D} {ns : List Int} {S : Store} {P : Nat → List Tr} {N : Nat → Nat} {held : List (Nat × Nat)} {y : Int} {s r : Nat} {x8 x9 x10 x11 x12 : Option D} (h : St its S P N held) (hs : s < 2) (hr : S[r]? = some (.lst (intsD (keys (P s))))) (hr2 : 10 ≤ r) (hn : N s ≤ 1000) (hh : held.length ≤ 900) :
    ∃ S' ps p1 p2 y12, brC (LB (.lis (ns.map .int)) (some (.int y)) (some (.int (s : Int))) (some (.ref r)) x8 x9 x10 x11 x12) S = .ok (.nx, LB (.lis (ns.map .int)) (some (.int y)) (some (.int (s : Int))) (some (.ref r)) x8 x9 x10 x11 y12) S' ∧ St its S' (upd P s ps) N (held ++ [p1, p2]) := by
  have hg := h.gd s hs
  have hlen := ris_len hg.ris hg.lt
  obtain ⟨n, en, hn3⟩ : ∃ n : Nat, y / 16 % 4 = (n : Int) ∧ n ≤ 3 := ⟨(y / 16 % 4).toNat, by omega, by omega⟩
  have hrg : ∀ S, rng1 [.int (n : Int)] S = .ok (ML.intsFrom 0 n, still) S := fun S => by
    rw [x_rng1 (by omega) (by omega), Int.toNat_natCast]
  obtain ⟨vs, v1, v2, v3⟩ := rowX Val.d (fun v : Val => ∀ k ∈ v.n, k ∈ keys (P s)) (i := 9) (m := callE 2 F__law_value (consA (callE 2 F__law_spread (consA (varE 5) (consA (binE addD (conE (.int 3)) (varE 9)) (nilA)))) (consA (varE 7) (nilA)))) (l := LB (.lis (ns.map .int)) (some (.int y)) (some (.int (s : Int))) (some (.ref r)) x8 none x10 x11 x12) (n := n) (t := r) (c := .lst (intsD (keys (P s)))) (by omega) fun k hk => by
    obtain ⟨w, hw, ew⟩ := spread_eq y (3 + (k : Int)) (by omega) (by omega)
    obtain ⟨v, hv, ev⟩ := value_eq w (keys (P s)) (by omega) r
    refine ⟨v, hv, fun S hS => ?_⟩
    obtain ⟨Y, eY⟩ := ev S hS
    exact ⟨Y, by simp [ew, eY]⟩
  have hv : ∀ k ∈ nums vs, k ∈ keys (P s) := fun k hk => by
    obtain ⟨v, a, b⟩ := List.mem_flatMap.mp hk
    exact v2 v a k b
  obtain ⟨Y, e1⟩ := v3 S hr
  obtain ⟨S1, hS1⟩ : ∃ S1, S ++ Y = S1 := ⟨_, rfl⟩
  rw [hS1] at e1
  have h1 : St its S1 P N held := by rw [← hS1]; exact h.app Y
  have hr1 : S1[r]? = some (.lst (intsD (keys (P s)))) := by rw [← hS1]; exact at_app hr
  obtain ⟨S2, hS2⟩ : ∃ S2, S1 ++ [Cell.lst (vs.map Val.d)] = S2 := ⟨_, rfl⟩
  have h2 : St its S2 P N held := by rw [← hS2]; exact h1.app _
  have k2 : S2[S1.length]? = some (.lst (vs.map Val.d)) := by rw [← hS2]; exact at_end
  have hr2' : S2[r]? = some (.lst (intsD (keys (P s)))) := by rw [← hS2]; exact at_app hr1
  have l1 : 10 < S1.length := lt_of_at h1.it
  have l2 : S2.length = S1.length + 1 := by rw [← hS2]; simp
  have e2 := h2.ix4 hs
  have i2 := (h2.hp s hs).ins
  have e3 := numbers_eq (h2.hp s hs) hg.ris
  obtain ⟨S3, hS3⟩ : ∃ S3, S2 ++ [Cell.lst (intsD (keys (P s)))] = S3 := ⟨_, rfl⟩
  rw [hS3] at e3
  have h3 : St its S3 P N held := by rw [← hS3]; exact h2.app _
  have k3 : S3[S2.length]? = some (.lst (intsD (keys (P s)))) := by rw [← hS3]; exact at_end
  have l3 : S3.length = S2.length + 1 := by rw [← hS3]; simp
  have f3 : ∀ {i c}, S2[i]? = some c → S3[i]? = some c := fun h => by rw [← hS3]; exact at_app h
  have e4 := x_append (d := .tup [.ref S2.length, .ref r]) (lstAt_of h3.l9) (by rw [List.length_map]; omega)
  have e5 : (held.map fun p => D.tup [.ref p.1, .ref p.2]) ++ [.tup [.ref S2.length, .ref r]] = (held ++ [(S2.length, r)]).map fun p => D.tup [.ref p.1, .ref p.2] := by rw [List.map_append]; rfl
  have e4s := lstAt_of h3.l9
  rw [e5] at e4
  obtain ⟨S4, hS4⟩ : ∃ S4, S3.set 9 (.lst ((held ++ [(S2.length, r)]).map fun p => D.tup [.ref p.1, .ref p.2])) = S4 := ⟨_, rfl⟩
  rw [hS4] at e4
  have l4 : S4.length = S3.length := by rw [← hS4]; simp
  have f4 : ∀ {i c}, i ≠ 9 → S3[i]? = some c → S4[i]? = some c := fun hi h => by rw [← hS4, get_set_ne (Ne.symm hi)]; exact h
  have h4 : St its S4 P N (held ++ [(S2.length, r)]) := ⟨fun i hi => by
      rw [← hS4]
      exact (h3.hp i hi).set h3.l9 (by omega) (by omega) (fun T => cell_lst T _), fun i hi => f4 (by omega) (h3.tt i hi), f4 (by omega) h3.l4, f4 (by omega) h3.l7, f4 (by omega) h3.l8, by rw [← hS4, get_set_at h3.l9], fun p hp => by
      rcases List.mem_append.mp hp with q | q
      · obtain ⟨L, b1, b2, b3, b4⟩ := h3.he p q
        exact ⟨L, f4 (by omega) b1, f4 (by omega) b2, b3, b4⟩
      · simp at q; subst q
        exact ⟨keys (P s), f4 (by show S2.length ≠ 9; omega) k3, f4 (by show r ≠ 9; omega) (f3 hr2'), by show 10 ≤ S2.length; omega, hr2⟩, h3.gd, f4 (by omega) h3.it⟩
  have k4 : S4[S1.length]? = some (.lst (vs.map Val.d)) := f4 (by omega) (f3 k2)
  obtain ⟨S5, p, L, e6, H5, t5, d5, hp5, g5, l5, f5⟩ := collected_eq (a := S1.length) (h4.hp s hs) (h4.tt s hs) h4.l9 (by omega) (by omega) (by omega) (by omega) (by omega) hg (by omega) (by simp; omega) k4 (by omega) (by omega) (by omega) hv (by omega)
  have e7 := h4.ix4 hs
  have e8 := h4.ix7 hs
  obtain ⟨M, m1, m2, m3, m4⟩ := hp5
  refine ⟨S5, keep (P s) L, (S2.length, r), p, some (.ref S1.length), ?_, ⟨fun i hi => ?_, fun i hi => ?_, f5 _ _ h4.l4 (by omega) (by omega) (by omega), f5 _ _ h4.l7 (by omega) (by omega) (by omega), f5 _ _ h4.l8 (by omega) (by omega) (by omega), ?_, fun q hq => ?_, fun i hi => ?_, f5 _ _ h4.it (by omega) (by omega) (by omega)⟩⟩
  · unfold brC
    simp only [LB] at e1 ⊢
    simp [en, hrg, Tgt.own, wipeL, e1, hS2, x_ix, e2, i2, List.lookup, beq_of, R.noex, e3, e4s, lstAt_of h2.l9, sz, e4, e7, e8, e6]
  · unfold upd
    by_cases q : i = s
    · subst q
      rw [if_pos rfl]
      exact H5
    · rw [if_neg q]
      refine (h4.hp i hi).fr (fun j => j = 2 * s + 1 ∨ j = 5 + s ∨ j = 9) (fun j c hc hb => f5 _ _ hc (by omega) (by omega) (by omega)) (by omega) (by omega) fun j U hb => ?_
      rcases hb with rfl | rfl | rfl
      · rw [(h4.hp s hs).h2]; exact fun z => cell_dct _ _ (Option.some.inj z).symm
      · rw [h4.tt s hs]; exact fun z => cell_dct _ _ (Option.some.inj z).symm
      · rw [h4.l9]; exact fun z => cell_lst _ _ (Option.some.inj z).symm
  · unfold upd
    by_cases q : i = s
    · subst q
      rw [if_pos rfl]
      exact t5
    · rw [if_neg q]
      exact f5 _ _ (h4.tt i hi) (by omega) (by omega) (by omega)
  · rw [d5]
    simp
  · have hq : q ∈ (held ++ [(S2.length, r)]) ++ [p] := by simpa using hq
    rcases List.mem_append.mp hq with q' | q'
    · obtain ⟨L, b1, b2, b3, b4⟩ := h4.he q q'
      exact ⟨L, f5 _ _ b1 (by omega) (by omega) (by omega), f5 _ _ b2 (by omega) (by omega) (by omega), b3, b4⟩
    · simp at q'; subst q'
      exact ⟨M, m1, m2, by omega, by omega⟩
  · unfold upd
    by_cases q : i = s
    · subst q
      rw [if_pos rfl]
      exact g5
    · rw [if_neg q]
      exact h4.gd i hi
end K25

set_option Elab.async false
set_option linter.all false
set_option maxRecDepth 100000
set_option autoImplicit false
namespace K25
open PySem PySem.Spec L2 ML
theorem brD_eq {its : List D} {ns : List Int} {S : Store} {P : Nat → List Tr} {N : Nat → Nat} {held : List (Nat × Nat)} {y : Int} {x6 x7 x8 x9 x10 x11 x12 : Option D} (h : St its S P N held) (hn : ∀ s, s < 2 → N s ≤ 1000) :
    ∃ S' y9, brD (LB (.lis (ns.map .int)) (some (.int y)) x6 x7 x8 x9 x10 x11 x12) S = .ok (.nx, LB (.lis (ns.map .int)) (some (.int y)) x6 x7 x8 y9 x10 x11 x12) S' ∧ St its S' P N held := by
  obtain ⟨S1, hS1⟩ : ∃ S1, S ++ [Cell.lst [.int 0, .int 1]] = S1 := ⟨_, rfl⟩
  obtain ⟨S2, hS2⟩ : ∃ S2, S1 ++ [Cell.lst [.int 1, .int 0]] = S2 := ⟨_, rfl⟩
  obtain ⟨S3, hS3⟩ : ∃ S3, S2 ++ [Cell.lst [.ref S.length, .ref S1.length]] = S3 := ⟨_, rfl⟩
  have h3 : St its S3 P N held := by rw [← hS3, ← hS2, ← hS1]; exact ((h.app _).app _).app _
  have k1 : S3[S.length]? = some (.lst [.int 0, .int 1]) := by rw [← hS3, ← hS2, ← hS1]; exact at_app (at_app at_end)
  have k2 : S3[S1.length]? = some (.lst [.int 1, .int 0]) := by rw [← hS3, ← hS2]; exact at_app at_end
  have k3 : S3[S2.length]? = some (.lst [.ref S.length, .ref S1.length]) := by rw [← hS3]; exact at_end
  obtain ⟨j, ej, hj⟩ : ∃ j : Nat, y / 64 % 2 = (j : Int) ∧ j < 2 := ⟨(y / 64 % 2).toNat, by omega, by omega⟩
  obtain ⟨q, a, b, e1, kq, ha, hb⟩ : ∃ q a b : Nat, ixO S3 (.ref S2.length) (.int (j : Int)) = some (.ref q) ∧ S3[q]? = some (.lst [.int (a : Int), .int (b : Int)]) ∧ a < 2 ∧ b < 2 := by
    rw [x_ixR (lstAt_of k3)]
    have : j = 0 ∨ j = 1 := by omega
    rcases this with rfl | rfl
    · exact ⟨_, 0, 1, rfl, k1, by omega, by omega⟩
    · exact ⟨_, 1, 0, rfl, k2, by omega, by omega⟩
  have e2 := x_srcR kq
  have := forS_inv (chk := fun S' => lstAt S' q = some [.int (a : Int), .int (b : Int)]) (t := nameT 9) (b := b_law_1) (ds := [.int (a : Int), .int (b : Int)]) (l := LB (.lis (ns.map .int)) (some (.int y)) x6 x7 x8 x9 x10 x11 x12) (S := S3)
    (Q := fun p S' => p.1 = .nx ∧ ∃ y9, p.2 = LB (.lis (ns.map .int)) (some (.int y)) x6 x7 x8 y9 x10 x11 x12 ∧ St its S' P N held)
    (fun k l S => ∃ y9, l = LB (.lis (ns.map .int)) (some (.int y)) x6 x7 x8 y9 x10 x11 x12 ∧ St its S P N held ∧ S[q]? = some (.lst [.int (a : Int), .int (b : Int)])) ⟨_, rfl, h3, kq⟩ (fun k l S h => by obtain ⟨_, _, _, h⟩ := h; exact lstAt_of h) (by
      rintro k d l S ⟨y9, rfl, h, hq⟩ hd
      obtain ⟨s, rfl, hs⟩ : ∃ s : Nat, d = .int (s : Int) ∧ s < 2 := by
        have := List.mem_of_getElem? hd
        simp at this
        rcases this with rfl | rfl
        · exact ⟨a, rfl, ha⟩
        · exact ⟨b, rfl, hb⟩
      obtain ⟨X, e⟩ := right_eq (h.hp s hs) (h.tt s hs) (h.gd s hs) (hn s hs)
      have i4 := h.ix4 hs
      have i7 := h.ix7 hs
      have i8 := h.ix8 hs
      have h' := h.app X
      have hq' := at_app (T := X) hq
      obtain ⟨S', hS'⟩ : ∃ S', S ++ X = S' := ⟨_, rfl⟩
      rw [hS'] at e h' hq'
      simp [b_law_1, x_ix, i4, i7, i8, e]
      exact ⟨h', hq'⟩) (by
      rintro l S ⟨y9, rfl, h, _⟩
      exact ⟨rfl, _, rfl, h⟩)
  obtain ⟨⟨fl, l'⟩, S', e, e3, y9, e4, h'⟩ := this.of
  subst e3
  simp only at e4
  subst e4
  refine ⟨S', y9, ?_, h'⟩
  unfold brD
  simp only [LB] at e ⊢
  simp [sz, hS1, hS2, hS3, ej, x_ix, e1, e2, e]
theorem turn {its : List D} {ns : List Int} {S : Store} {P : Nat → List Tr} {N : Nat → Nat} {held : List (Nat × Nat)} {c : Int} {k : Nat} {x6 x7 x8 x9 x10 x11 x12 : Option D} (h : St its S P N held) (hk : k ≤ 100) (hn : ∀ s, s < 2 → N s ≤ k) (hh : held.length ≤ 2 * k) :
    ∃ S' P' N' held' y5 y6 y7 y8 y9 y10 y11 y12, b_law_0 (LB (.lis (ns.map .int)) (some (.int c)) x6 x7 x8 x9 x10 x11 x12) S = .ok (.nx, LB (.lis (ns.map .int)) y5 y6 y7 y8 y9 y10 y11 y12) S' ∧ St its S' P' N' held' ∧ (∀ s, s < 2 → N' s ≤ k + 1) ∧ held'.length ≤ 2 * (k + 1) := by
  obtain ⟨y, hy, ey⟩ := spread_eq c 0 (by omega) (by omega)
  obtain ⟨s, es, hs⟩ : ∃ s : Nat, y % 2 = (s : Int) ∧ s < 2 := ⟨(y % 2).toNat, by omega, by omega⟩
  have hg := h.gd s hs
  have e1 := h.ix7 hs
  have e2 : listV [.ref (5 + s)] S = .ok (intsD (keys (P s))) S := by
    have := x_listDict (h.tt s hs)
    rw [dK_keys] at this
    exact this
  have e3 := sortL_ints (keys (P s)) S
  rw [sort_rising hg.ris] at e3
  obtain ⟨S1, hS1⟩ : ∃ S1, S ++ [Cell.lst (intsD (keys (P s)))] = S1 := ⟨_, rfl⟩
  have h1 : St its S1 P N held := by rw [← hS1]; exact h.app _
  have k1 : S1[S.length]? = some (.lst (intsD (keys (P s)))) := by rw [← hS1]; exact at_end
  have l1 : 10 < S.length := lt_of_at h.it
  -- the way
  have fin : ∀ (S2 : Store) (P2 : Nat → List Tr) (N2 : Nat → Nat) (held2 : List (Nat × Nat)) (x8 x9 x10 x11 x12 : Option D), St its S2 P2 N2 held2 → (∀ s, s < 2 → N2 s ≤ k + 1) → ∃ S' y9, brD (LB (.lis (ns.map .int)) (some (.int y)) (some (.int (s : Int))) (some (.ref S.length)) x8 x9 x10 x11 x12) S2 = .ok (.nx, LB (.lis (ns.map .int)) (some (.int y)) (some (.int (s : Int))) (some (.ref S.length)) x8 y9 x10 x11 x12) S' ∧ St its S' P2 N2 held2 := fun S2 P2 N2 held2 x8 x9 x10 x11 x12 h2 hn2 => brD_eq h2 (fun s hs => by have := hn2 s hs; omega)
  have un : ∀ i, i < 2 → upd N s (N s + 1) i ≤ k + 1 := fun i hi => by
    unfold upd
    have := hn s hs
    have := hn i hi
    split <;> omega
  by_cases c1 : y / 2 % 8 < 4
  · obtain ⟨S2, T, ref, e4, h2⟩ := turnA (ns := ns) (y := y) (x8 := some (.int (y / 2 % 8))) (x9 := x9) (x10 := x10) (x11 := x11) (x12 := x12) h1 hs k1 (by have := hn s hs; omega)
    obtain ⟨S3, y9, e5, h3⟩ := fin _ _ _ _ (some (.int (y / 2 % 8))) x9 (some T.d) x11 x12 h2 un
    refine ⟨S3, _, _, _, some (.int y), some (.int (s : Int)), some (.ref S.length), some (.int (y / 2 % 8)), y9, some T.d, x11, x12, ?_, h3, un, by omega⟩
    · rw [b_law_0_eq]
      simp only [LB] at e4 e5 ⊢
      simp [ey, es, x_ix, e1, e2, e3, hS1, c1, e4, e5]
  · by_cases hv : keys (P s) = []
    · obtain ⟨S1', hS1'⟩ : ∃ S1', S1 ++ [Cell.lst []] = S1' := ⟨_, rfl⟩
      have h1' : St its S1' P N held := by rw [← hS1']; exact h1.app _
      have k1' : S1'[S.length]? = some (.lst (intsD (keys (P s)))) := by rw [← hS1']; exact at_app k1
      have e0 := x_eqInts (S := S1') (n := S.length) (m := S1.length) (l := []) (k := []) (by rw [k1', hv]) (by rw [← hS1']; exact at_end)
      rw [decide_eq_true rfl] at e0
      obtain ⟨S2, T, ref, e4, h2⟩ := turnA (ns := ns) (y := y) (x8 := some (.int (y / 2 % 8))) (x9 := x9) (x10 := x10) (x11 := x11) (x12 := x12) h1' hs k1' (by have := hn s hs; omega)
      obtain ⟨S3, y9, e5, h3⟩ := fin _ _ _ _ (some (.int (y / 2 % 8))) x9 (some T.d) x11 x12 h2 un
      refine ⟨S3, _, _, _, some (.int y), some (.int (s : Int)), some (.ref S.length), some (.int (y / 2 % 8)), y9, some T.d, x11, x12, ?_, h3, un, by omega⟩
      · rw [b_law_0_eq]
        simp only [LB] at e4 e5 ⊢
        simp [ey, es, x_ix, e1, e2, e3, hS1, c1, hS1', e0, e4, e5]
    · obtain ⟨S1', hS1'⟩ : ∃ S1', S1 ++ [Cell.lst []] = S1' := ⟨_, rfl⟩
      have h1' : St its S1' P N held := by rw [← hS1']; exact h1.app _
      have k1' : S1'[S.length]? = some (.lst (intsD (keys (P s)))) := by rw [← hS1']; exact at_app k1
      have e0 := x_eqInts (S := S1') (n := S.length) (m := S1.length) (l := keys (P s)) (k := []) k1' (by rw [← hS1']; exact at_end)
      rw [decide_eq_false hv] at e0
      have un2 : ∀ i, i < 2 → N i ≤ k + 1 := fun i hi => by have := hn i hi; omega
      by_cases c2 : y / 2 % 8 < 6
      · obtain ⟨S2, ps, y11, e4, h2⟩ := turnB (ns := ns) (y := y) (x8 := some (.int (y / 2 % 8))) (x9 := x9) (x10 := x10) (x11 := x11) (x12 := x12) h1' hs k1' (by have := hn s hs; omega) hv
        obtain ⟨S3, y9, e5, h3⟩ := fin _ _ _ _ (some (.int (y / 2 % 8))) x9 x10 y11 x12 h2 un2
        refine ⟨S3, _, _, _, some (.int y), some (.int (s : Int)), some (.ref S.length), some (.int (y / 2 % 8)), y9, x10, y11, x12, ?_, h3, un2, by omega⟩
        · rw [b_law_0_eq]
          simp only [LB] at e4 e5 ⊢
          simp [ey, es, x_ix, e1, e2, e3, hS1, c1, hS1', e0, c2, e4, e5]
      · obtain ⟨S2, ps, p1, p2, y12, e4, h2⟩ := turnC (ns := ns) (y := y) (x8 := some (.int (y / 2 % 8))) (x9 := x9) (x10 := x10) (x11 := x11) (x12 := x12) h1' hs k1' (by omega) (by have := hn s hs; omega) (by omega)
        obtain ⟨S3, y9, e5, h3⟩ := fin _ _ _ _ (some (.int (y / 2 % 8))) x9 x10 x11 y12 h2 un2
        refine ⟨S3, _, _, _, some (.int y), some (.int (s : Int)), some (.ref S.length), some (.int (y / 2 % 8)), y9, x10, x11, y12, ?_, h3, un2, by simp; omega⟩
        · rw [b_law_0_eq]
          simp only [LB] at e4 e5 ⊢
          simp [ey, es, x_ix, e1, e2, e3, hS1, c1, hS1', e0, c2, e4, e5]
end K25

set_option Elab.async false
set_option linter.all false
set_option maxRecDepth 100000
set_option autoImplicit false
namespace K25
open PySem PySem.Spec L2 ML
theorem held_all {its : List D} {S : Store} {P : Nat → List Tr} {N : Nat → Nat} {held : List (Nat × Nat)} (h : St its S P N held) (hz : held.length ≤ 1000) (l : ML.Loc) (hl : 14 < l.length) : compL (fun S' => lstAt S' 9 = some (held.map fun p => D.tup [.ref p.1, .ref p.2])) (.many [14, 13]) yesM (toV (cmpM eqD (varE 14) (varE 13))) l (held.map fun p => D.tup [.ref p.1, .ref p.2]) [] S = .ok (held.map fun _ => D.bl true) S := by
  have e : (held.map fun p => D.tup [.ref p.1, .ref p.2]) = (held.map fun p => ((D.ref p.1, D.ref p.2) : D × D)).map fun p => D.tup [p.1, p.2] := by rw [List.map_map]; rfl
  have := comp_pairs (chk := fun S' => lstAt S' 9 = some (held.map fun p => D.tup [.ref p.1, .ref p.2])) (i := 14) (j := 13) (m := toV (cmpM eqD (varE 14) (varE 13))) (l := l) (S := S) (lstAt_of h.l9) (held.map fun p => ((D.ref p.1, D.ref p.2) : D × D)) (fun p hp => by
    obtain ⟨q, hq, rfl⟩ := List.mem_map.mp hp
    obtain ⟨L, b1, b2, _, _⟩ := h.he q hq
    have e1 := x_eqInts b1 b2
    rw [decide_eq_true rfl] at e1
    have v1 : varE 14 ((l.set 14 (some (D.ref q.1))).set 13 (some (D.ref q.2))) S = .ok (.ref q.1) S := by
      unfold varE
      rw [List.getElem?_set_ne (by omega), List.getElem?_set_self hl]
    have v2 : varE 13 ((l.set 14 (some (D.ref q.1))).set 13 (some (D.ref q.2))) S = .ok (.ref q.2) S := by
      unfold varE
      rw [List.getElem?_set_self (by rw [List.length_set]; omega)]
    simp [v1, v2, e1]) [] (by simp; omega)
  rw [e] at *
  rw [this]
  simp
def s10 : Store := [hpC 1 0, .dct [], hpC 3 0, .dct [], .lst [.ref 0, .ref 2], .dct [], .dct [], .lst [.ref 5, .ref 6], .lst [.int 0, .int 0], .lst []]
theorem st_start (its : List D) : St its (s10 ++ [.lst its]) (fun _ => []) (fun _ => 0) [] where
  hp s hs := by
    have : s = 0 ∨ s = 1 := by omega
    rcases this with rfl | rfl
    · exact ⟨rfl, rfl, fun p hp => absurd hp (by simp)⟩
    · exact ⟨rfl, rfl, fun p hp => absurd hp (by simp)⟩
  tt s hs := by
    have : s = 0 ∨ s = 1 := by omega
    rcases this with rfl | rfl <;> rfl
  l4 := rfl
  l7 := rfl
  l8 := rfl
  l9 := rfl
  he p hp := absurd hp (by simp)
  gd s hs := ⟨List.Pairwise.nil, fun k hk => absurd hk (by simp [keys]), fun p hp => absurd hp (by simp)⟩
  it := rfl
theorem loop {ns : List Int} {its : List D} {S : Store} {P : Nat → List Tr} {N : Nat → Nat} (h : St its S P N []) (hN : ∀ s, s < 2 → N s ≤ 0) (hz : its.length ≤ 63) (hi : ∀ d ∈ its, ∃ c, d = .int c) :
    ∃ y5 y6 y7 y8 y9 y10 y11 y12 S' P' N' held, forL (fun S' => lstAt S' 10 = some its) (nameT 5) b_law_0 its (LB (.lis (ns.map .int)) none none none none none none none none) S = .ok (.nx, LB (.lis (ns.map .int)) y5 y6 y7 y8 y9 y10 y11 y12) S' ∧ St its S' P' N' held ∧ held.length ≤ 200 := by
  have := forS_inv (chk := fun S' => lstAt S' 10 = some its) (t := nameT 5) (b := b_law_0) (ds := its) (l := LB (.lis (ns.map .int)) none none none none none none none none) (S := S)
    (Q := fun p S' => p.1 = .nx ∧ ∃ y5 y6 y7 y8 y9 y10 y11 y12 P' N' held, p.2 = LB (.lis (ns.map .int)) y5 y6 y7 y8 y9 y10 y11 y12 ∧ St its S' P' N' held ∧ held.length ≤ 200)
    (fun k l S => k ≤ its.length ∧ ∃ y5 y6 y7 y8 y9 y10 y11 y12 P' N' held, l = LB (.lis (ns.map .int)) y5 y6 y7 y8 y9 y10 y11 y12 ∧ St its S P' N' held ∧ (∀ s, s < 2 → N' s ≤ k) ∧ held.length ≤ 2 * k) ⟨by omega, _, _, _, _, _, _, _, _, _, _, _, rfl, h, hN, by simp⟩ (fun k l S h => by obtain ⟨_, _, _, _, _, _, _, _, _, _, _, _, _, h, _⟩ := h; exact lstAt_of h.it) (by
      rintro k d l S ⟨hk, y5, y6, y7, y8, y9, y10, y11, y12, P', N', held, rfl, h, hN, hh⟩ hd
      have hk1 := (List.getElem?_eq_some_iff.mp hd).1
      obtain ⟨c, rfl⟩ := hi d (List.mem_of_getElem? hd)
      obtain ⟨S', P2, N2, held2, z5, z6, z7, z8, z9, z10, z11, z12, e, h', hN2, hh2⟩ := turn (ns := ns) (c := c) (x6 := y6) (x7 := y7) (x8 := y8) (x9 := y9) (x10 := y10) (x11 := y11) (x12 := y12) h (by omega) hN hh
      simp
      rw [e]
      exact ⟨by omega, ⟨_, _, _, _, _, _, _, _, rfl⟩, _, _, _, h', hN2, hh2⟩) (by
      rintro l S ⟨_, y5, y6, y7, y8, y9, y10, y11, y12, P', N', held, rfl, h, hN, hh⟩
      exact ⟨rfl, _, _, _, _, _, _, _, _, _, _, _, rfl, h, by omega⟩)
  obtain ⟨⟨fl, l'⟩, S', e, e1, y5, y6, y7, y8, y9, y10, y11, y12, P', N', held, e2, h', hh⟩ := this.of
  subst e1
  simp only at e2
  subst e2
  exact ⟨y5, y6, y7, y8, y9, y10, y11, y12, S', P', N', held, e, h', hh⟩
noncomputable def tl : MS := seqS (forS (srcV (sliceE (varE 0) (someO (conE (.int 1))) (someO (conE (.int 19))))) (nameT 5) (b_law_0)) (retS (newL allL (compN (srcV (varE 4)) (.many [14, 13]) (yesM) (toV (cmpM eqD (varE 14) (varE 13))))))
theorem tl_eq {ns : List Int} (hns : ns.length ≤ 63) : ∃ l' S', tl (LB (.lis (ns.map .int)) none none none none none none none none) s10 = .ok (.rt (.bl true), l') S' := by
  obtain ⟨its, hits⟩ : ∃ its, cutD (ns.map D.int) (some 1) (some 19) = its := ⟨_, rfl⟩
  have e5 := x_slW (ns.map D.int) (some 1) (some 19) s10
  rw [hits] at e5
  have h0 := st_start its
  obtain ⟨S, hS⟩ : ∃ S, s10 ++ [Cell.lst its] = S := ⟨_, rfl⟩
  have hl : s10.length = 10 := rfl
  rw [hS, hl] at e5
  rw [hS] at h0
  have e6 := x_srcR h0.it
  have hil : its.length ≤ 63 := by rw [← hits]; have := cutD_len (ns.map D.int) (some 1) (some 19); simp at this; omega
  obtain ⟨y5, y6, y7, y8, y9, y10, y11, y12, S', P', N', held, e7, h', hh⟩ := loop (ns := ns) h0 (fun _ _ => Nat.le_refl _) hil (fun d hd => by
    rw [← hits] at hd
    obtain ⟨c, _, rfl⟩ := List.mem_map.mp (cutD_mem hd)
    exact ⟨c, rfl⟩)
  have e8 := x_srcR h'.l9
  have e9 := held_all h' (by omega) (LB (.lis (ns.map .int)) y5 y6 y7 y8 y9 y10 y11 y12) (by simp [LB])
  have e10 := allL_map (fun _ : Nat × Nat => true) held S'
  refine ⟨LB (.lis (ns.map .int)) y5 y6 y7 y8 y9 y10 y11 y12, S', ?_⟩
  obtain ⟨s0, hs0⟩ : ∃ s0, s10 = s0 := ⟨_, rfl⟩
  rw [hs0] at e5 ⊢
  unfold tl
  simp only [LB] at e7 e9 ⊢
  simp [e5, e6, e7, e8, Tgt.own, wipeL, e9, e10]
theorem law_true : ∀ ns : List Int, ns.length ≤ 63 → ∃ S', F_law [.lis (ns.map D.int)] [] = .ok (.bl true) S' := by
  intro ns hns
  obtain ⟨z0, e0⟩ := draw_int ns 0 (by omega)
  by_cases c : z0 / 40 % 16 = 5
  · obtain ⟨z1, e1⟩ := draw_int ns 19 (by omega)
    obtain ⟨y, hy, ey⟩ := spread_eq z1 3 (by omega) (by omega)
    obtain ⟨S, e⟩ := chain_eq y
    exact ⟨S, by simp [F_law, m_law, N_law, startL, e0, c, e1, ey, e]⟩
  · obtain ⟨l2, S2, e2⟩ := tl_eq (ns := ns) hns
    refine ⟨S2, ?_⟩
    have et : F_law = bodyF N_law.length (seqS (ifS (cmpM eqD (binE modD (binE fdivD (callE 2 F__law_draw (consA (varE 0) (consA (conE (.int 0)) (nilA)))) (conE (.int 40))) (conE (.int 16))) (conE (.int 5))) (retS (callE 1 F__law_chain (consA (callE 2 F__law_spread (consA (callE 2 F__law_draw (consA (varE 0) (consA (conE (.int 19)) (nilA)))) (consA (conE (.int 3)) (nilA)))) (nilA)))) (nilS)) (seqS (setS 1 (allocE (lstN (consA (makeE 7 1 F_HeapXX_initXX nilA) (consA (makeE 7 1 F_HeapXX_initXX nilA) (nilA)))))) (seqS (setS 2 (allocE (lstN (consA (dict0) (consA (dict0) (nilA)))))) (seqS (setS 3 (allocE (lstN (consA (conE (.int 0)) (consA (conE (.int 0)) (nilA)))))) (seqS (setS 4 (allocE (lstN (nilA)))) tl))))) := rfl
    rw [et]
    simp only [N_law, x_bodyF, startL]
    simp only [LB, s10] at e2
    simp [e0, c, -x_makeE, mk_heap, sz, e2]
end K25

set_option Elab.async false
set_option linter.all false
set_option maxRecDepth 100000
set_option autoImplicit false
set_option maxHeartbeats 4000000
namespace K25
open PySem PySem.Spec L2 ML
theorem all_mk {l : PySem.W.OpenLaw} {w : World} {K : PySem.W.Frag} {h : Heap} {mg : Str → Option Value} {fa : Addr} (X : K.In h) (G : h.Ns mainGlobals mg) (hfa : mg "law" = some (.ref fa))
    {C_Box : Addr}
    {C_Maker : Addr}
    {C_Looper : Addr}
    {C_Waiting : Addr}
    {C_Heap : Addr}
    {f1 : Addr} {od1 an1 : Option Addr} {sl1 : Array (Option Value)} {oc1 kV1 dc1 pm1 cd1 ct1 : Value}
    {f2 : Addr} {od2 an2 : Option Addr} {sl2 : Array (Option Value)} {oc2 kV2 dc2 pm2 cd2 ct2 : Value}
    {f3 : Addr} {od3 an3 : Option Addr} {sl3 : Array (Option Value)} {oc3 kV3 dc3 pm3 cd3 ct3 : Value}
    {f4 : Addr} {od4 an4 : Option Addr} {sl4 : Array (Option Value)} {oc4 kV4 dc4 pm4 cd4 ct4 : Value}
    {f5 : Addr} {od5 an5 : Option Addr} {sl5 : Array (Option Value)} {oc5 kV5 dc5 pm5 cd5 ct5 : Value}
    {f6 : Addr} {od6 an6 : Option Addr} {sl6 : Array (Option Value)} {oc6 kV6 dc6 pm6 cd6 ct6 : Value}
    {f7 : Addr} {od7 an7 : Option Addr} {sl7 : Array (Option Value)} {oc7 kV7 dc7 pm7 cd7 ct7 : Value}
    {f8 : Addr} {od8 an8 : Option Addr} {sl8 : Array (Option Value)} {oc8 kV8 dc8 pm8 cd8 ct8 : Value}
    {f9 : Addr} {od9 an9 : Option Addr} {sl9 : Array (Option Value)} {oc9 kV9 dc9 pm9 cd9 ct9 : Value}
    {f10 : Addr} {od10 an10 : Option Addr} {sl10 : Array (Option Value)} {oc10 kV10 dc10 pm10 cd10 ct10 : Value}
    {f11 : Addr} {od11 an11 : Option Addr} {sl11 : Array (Option Value)} {oc11 kV11 dc11 pm11 cd11 ct11 : Value}
    {f12 : Addr} {od12 an12 : Option Addr} {sl12 : Array (Option Value)} {oc12 kV12 dc12 pm12 cd12 ct12 : Value}
    {f13 : Addr} {od13 an13 : Option Addr} {sl13 : Array (Option Value)} {oc13 kV13 dc13 pm13 cd13 ct13 : Value}
    {f14 : Addr} {od14 an14 : Option Addr} {sl14 : Array (Option Value)} {oc14 kV14 dc14 pm14 cd14 ct14 : Value}
    {f15 : Addr} {od15 an15 : Option Addr} {sl15 : Array (Option Value)} {oc15 kV15 dc15 pm15 cd15 ct15 : Value}
    {f16 : Addr} {od16 an16 : Option Addr} {sl16 : Array (Option Value)} {oc16 kV16 dc16 pm16 cd16 ct16 : Value}
    {f17 : Addr} {od17 an17 : Option Addr} {sl17 : Array (Option Value)} {oc17 kV17 dc17 pm17 cd17 ct17 : Value}
    {f18 : Addr} {od18 an18 : Option Addr} {sl18 : Array (Option Value)} {oc18 kV18 dc18 pm18 cd18 ct18 : Value}
    {f19 : Addr} {od19 an19 : Option Addr} {sl19 : Array (Option Value)} {oc19 kV19 dc19 pm19 cd19 ct19 : Value}
    {f20 : Addr} {od20 an20 : Option Addr} {sl20 : Array (Option Value)} {oc20 kV20 dc20 pm20 cd20 ct20 : Value}
    {f21 : Addr} {od21 an21 : Option Addr} {sl21 : Array (Option Value)} {oc21 kV21 dc21 pm21 cd21 ct21 : Value}
    {f22 : Addr} {od22 an22 : Option Addr} {sl22 : Array (Option Value)} {oc22 kV22 dc22 pm22 cd22 ct22 : Value}
    {f23 : Addr} {od23 an23 : Option Addr} {sl23 : Array (Option Value)} {oc23 kV23 dc23 pm23 cd23 ct23 : Value}
    {f24 : Addr} {od24 an24 : Option Addr} {sl24 : Array (Option Value)} {oc24 kV24 dc24 pm24 cd24 ct24 : Value}
    {f25 : Addr} {od25 an25 : Option Addr} {sl25 : Array (Option Value)} {oc25 kV25 dc25 pm25 cd25 ct25 : Value}
    {f26 : Addr} {od26 an26 : Option Addr} {sl26 : Array (Option Value)} {oc26 kV26 dc26 pm26 cd26 ct26 : Value}
    {f27 : Addr} {od27 an27 : Option Addr} {sl27 : Array (Option Value)} {oc27 kV27 dc27 pm27 cd27 ct27 : Value}
    {f28 : Addr} {od28 an28 : Option Addr} {sl28 : Array (Option Value)} {oc28 kV28 dc28 pm28 cd28 ct28 : Value}
    {f29 : Addr} {od29 an29 : Option Addr} {sl29 : Array (Option Value)} {oc29 kV29 dc29 pm29 cd29 ct29 : Value}
    {f30 : Addr} {od30 an30 : Option Addr} {sl30 : Array (Option Value)} {oc30 kV30 dc30 pm30 cd30 ct30 : Value}
    {f31 : Addr} {od31 an31 : Option Addr} {sl31 : Array (Option Value)} {oc31 kV31 dc31 pm31 cd31 ct31 : Value}
    {f32 : Addr} {od32 an32 : Option Addr} {sl32 : Array (Option Value)} {oc32 kV32 dc32 pm32 cd32 ct32 : Value}
    {f33 : Addr} {od33 an33 : Option Addr} {sl33 : Array (Option Value)} {oc33 kV33 dc33 pm33 cd33 ct33 : Value}
    {f34 : Addr} {od34 an34 : Option Addr} {sl34 : Array (Option Value)} {oc34 kV34 dc34 pm34 cd34 ct34 : Value}
    {C_NoThing : Addr}
    {C_LoomError : Addr}
    (n_Box : PySem.W.nsIn K mainGlobals "Box" = some (some (.ref C_Box)))
    (pg_Box : PySem.W.plainGet K C_Box Str.empty = true)
    (hd_Box : PySem.W.hasDictIn K C_Box = true)
    (po_Box : PySem.W.plainOver K C_Box = true)
    (sa_Box : PySem.W.findIn K (.ref C_Box) "__setattr__" = some (some (.builtin "object.__setattr__")))
    (mk_Box : PySem.W.makesIn K C_Box = true)
    (kc_Box : PySem.W.keepIn K (.ref C_Box) = true)
    (n_Maker : PySem.W.nsIn K mainGlobals "Maker" = some (some (.ref C_Maker)))
    (pg_Maker : PySem.W.plainGet K C_Maker Str.empty = true)
    (hd_Maker : PySem.W.hasDictIn K C_Maker = true)
    (po_Maker : PySem.W.plainOver K C_Maker = true)
    (sa_Maker : PySem.W.findIn K (.ref C_Maker) "__setattr__" = some (some (.builtin "object.__setattr__")))
    (mk_Maker : PySem.W.makesIn K C_Maker = true)
    (kc_Maker : PySem.W.keepIn K (.ref C_Maker) = true)
    (n_Looper : PySem.W.nsIn K mainGlobals "Looper" = some (some (.ref C_Looper)))
    (pg_Looper : PySem.W.plainGet K C_Looper Str.empty = true)
    (hd_Looper : PySem.W.hasDictIn K C_Looper = true)
    (po_Looper : PySem.W.plainOver K C_Looper = true)
    (sa_Looper : PySem.W.findIn K (.ref C_Looper) "__setattr__" = some (some (.builtin "object.__setattr__")))
    (mk_Looper : PySem.W.makesIn K C_Looper = true)
    (kc_Looper : PySem.W.keepIn K (.ref C_Looper) = true)
    (n_Waiting : PySem.W.nsIn K mainGlobals "Waiting" = some (some (.ref C_Waiting)))
    (pg_Waiting : PySem.W.plainGet K C_Waiting Str.empty = true)
    (hd_Waiting : PySem.W.hasDictIn K C_Waiting = true)
    (po_Waiting : PySem.W.plainOver K C_Waiting = true)
    (sa_Waiting : PySem.W.findIn K (.ref C_Waiting) "__setattr__" = some (some (.builtin "object.__setattr__")))
    (mk_Waiting : PySem.W.makesIn K C_Waiting = true)
    (kc_Waiting : PySem.W.keepIn K (.ref C_Waiting) = true)
    (n_Heap : PySem.W.nsIn K mainGlobals "Heap" = some (some (.ref C_Heap)))
    (pg_Heap : PySem.W.plainGet K C_Heap Str.empty = true)
    (hd_Heap : PySem.W.hasDictIn K C_Heap = true)
    (po_Heap : PySem.W.plainOver K C_Heap = true)
    (sa_Heap : PySem.W.findIn K (.ref C_Heap) "__setattr__" = some (some (.builtin "object.__setattr__")))
    (mk_Heap : PySem.W.makesIn K C_Heap = true)
    (kc_Heap : PySem.W.keepIn K (.ref C_Heap) = true)
    (na_Heap_there : PySem.W.findIn K (.ref C_Heap) "there" = some none)
    (na_Heap_count : PySem.W.findIn K (.ref C_Heap) "count" = some none)
    (na_Box_value : PySem.W.findIn K (.ref C_Box) "value" = some none)
    (na_Waiting_own : PySem.W.findIn K (.ref C_Waiting) "own" = some none)
    (na_Looper_own : PySem.W.findIn K (.ref C_Looper) "own" = some none)
    (na_Maker_own : PySem.W.findIn K (.ref C_Maker) "own" = some none)
    (na_Waiting_taken : PySem.W.findIn K (.ref C_Waiting) "taken" = some none)
    (na_Looper_taken : PySem.W.findIn K (.ref C_Looper) "taken" = some none)
    (na_Maker_taken : PySem.W.findIn K (.ref C_Maker) "taken" = some none)
    (na_Waiting_at : PySem.W.findIn K (.ref C_Waiting) "at" = some none)
    (na_Waiting_slots : PySem.W.findIn K (.ref C_Waiting) "slots" = some none)
    (na_Waiting_boxes : PySem.W.findIn K (.ref C_Waiting) "boxes" = some none)
    (in_Heap : PySem.W.findIn K (.ref C_Heap) "__init__" = some (some (.ref f1)))
    (fn1 : PySem.W.isFn K (.ref f1) = true)
    (l1 : K.lookup f1 = some ⟨oc1, od1, .func (PySem.W.fnOf "__init__" "Heap.__init__" (defArgs s_HeapXX_initXX) (defBody s_HeapXX_initXX) (defScope s_HeapXX_initXX) .none kV1 dc1 pm1 an1 cd1 ct1), sl1⟩)
    (c1 : PySem.W.codeIn K cd1 "Heap.__init__" = true)
    (k1 : PySem.W.keepIn K (.ref f1) = true)
    (mt_Heap_need : PySem.W.findIn K (.ref C_Heap) "need" = some (some (.ref f2)))
    (fn2 : PySem.W.isFn K (.ref f2) = true)
    (l2 : K.lookup f2 = some ⟨oc2, od2, .func (PySem.W.fnOf "need" "Heap.need" (defArgs s_Heap_need) (defBody s_Heap_need) (defScope s_Heap_need) .none kV2 dc2 pm2 an2 cd2 ct2), sl2⟩)
    (c2 : PySem.W.codeIn K cd2 "Heap.need" = true)
    (k2 : PySem.W.keepIn K (.ref f2) = true)
    (in_Box : PySem.W.findIn K (.ref C_Box) "__init__" = some (some (.ref f3)))
    (fn3 : PySem.W.isFn K (.ref f3) = true)
    (l3 : K.lookup f3 = some ⟨oc3, od3, .func (PySem.W.fnOf "__init__" "Box.__init__" (defArgs s_BoxXX_initXX) (defBody s_BoxXX_initXX) (defScope s_BoxXX_initXX) .none kV3 dc3 pm3 an3 cd3 ct3), sl3⟩)
    (c3 : PySem.W.codeIn K cd3 "Box.__init__" = true)
    (k3 : PySem.W.keepIn K (.ref f3) = true)
    (in_Maker : PySem.W.findIn K (.ref C_Maker) "__init__" = some (some (.ref f4)))
    (in_Looper : PySem.W.findIn K (.ref C_Looper) "__init__" = some (some (.ref f4)))
    (fn4 : PySem.W.isFn K (.ref f4) = true)
    (l4 : K.lookup f4 = some ⟨oc4, od4, .func (PySem.W.fnOf "__init__" "Maker.__init__" (defArgs s_MakerXX_initXX) (defBody s_MakerXX_initXX) (defScope s_MakerXX_initXX) .none kV4 dc4 pm4 an4 cd4 ct4), sl4⟩)
    (c4 : PySem.W.codeIn K cd4 "Maker.__init__" = true)
    (k4 : PySem.W.keepIn K (.ref f4) = true)
    (in_Waiting : PySem.W.findIn K (.ref C_Waiting) "__init__" = some (some (.ref f5)))
    (fn5 : PySem.W.isFn K (.ref f5) = true)
    (l5 : K.lookup f5 = some ⟨oc5, od5, .func (PySem.W.fnOf "__init__" "Waiting.__init__" (defArgs s_WaitingXX_initXX) (defBody s_WaitingXX_initXX) (defScope s_WaitingXX_initXX) .none kV5 dc5 pm5 an5 cd5 ct5), sl5⟩)
    (c5 : PySem.W.codeIn K cd5 "Waiting.__init__" = true)
    (k5 : PySem.W.keepIn K (.ref f5) = true)
    (a6 : PySem.W.nsIn K mainGlobals "thing_of" = some (some (.ref f6)))
    (l6 : K.lookup f6 = some ⟨oc6, od6, .func (PySem.W.fnOf "thing_of" "thing_of" (defArgs s_thing_of) (defBody s_thing_of) (defScope s_thing_of) .none kV6 dc6 pm6 an6 cd6 ct6), sl6⟩)
    (c6 : PySem.W.codeIn K cd6 "thing_of" = true)
    (k6 : PySem.W.keepIn K (.ref f6) = true)
    (mt_Heap_change : PySem.W.findIn K (.ref C_Heap) "change" = some (some (.ref f7)))
    (fn7 : PySem.W.isFn K (.ref f7) = true)
    (l7 : K.lookup f7 = some ⟨oc7, od7, .func (PySem.W.fnOf "change" "Heap.change" (defArgs s_Heap_change) (defBody s_Heap_change) (defScope s_Heap_change) .none kV7 dc7 pm7 an7 cd7 ct7), sl7⟩)
    (c7 : PySem.W.codeIn K cd7 "Heap.change" = true)
    (k7 : PySem.W.keepIn K (.ref f7) = true)
    (mt_Heap_numbers : PySem.W.findIn K (.ref C_Heap) "numbers" = some (some (.ref f8)))
    (fn8 : PySem.W.isFn K (.ref f8) = true)
    (l8 : K.lookup f8 = some ⟨oc8, od8, .func (PySem.W.fnOf "numbers" "Heap.numbers" (defArgs s_Heap_numbers) (defBody s_Heap_numbers) (defScope s_Heap_numbers) .none kV8 dc8 pm8 an8 cd8 ct8), sl8⟩)
    (c8 : PySem.W.codeIn K cd8 "Heap.numbers" = true)
    (k8 : PySem.W.keepIn K (.ref f8) = true)
    (mt_Heap_put : PySem.W.findIn K (.ref C_Heap) "put" = some (some (.ref f9)))
    (fn9 : PySem.W.isFn K (.ref f9) = true)
    (l9 : K.lookup f9 = some ⟨oc9, od9, .func (PySem.W.fnOf "put" "Heap.put" (defArgs s_Heap_put) (defBody s_Heap_put) (defScope s_Heap_put) .none kV9 dc9 pm9 an9 cd9 ct9), sl9⟩)
    (c9 : PySem.W.codeIn K cd9 "Heap.put" = true)
    (k9 : PySem.W.keepIn K (.ref f9) = true)
    (mt_Box_holds : PySem.W.findIn K (.ref C_Box) "holds" = some (some (.ref f10)))
    (fn10 : PySem.W.isFn K (.ref f10) = true)
    (l10 : K.lookup f10 = some ⟨oc10, od10, .func (PySem.W.fnOf "holds" "Box.holds" (defArgs s_Box_holds) (defBody s_Box_holds) (defScope s_Box_holds) .none kV10 dc10 pm10 an10 cd10 ct10), sl10⟩)
    (c10 : PySem.W.codeIn K cd10 "Box.holds" = true)
    (k10 : PySem.W.keepIn K (.ref f10) = true)
    (a11 : PySem.W.nsIn K mainGlobals "boxes_as_values" = some (some (.ref f11)))
    (l11 : K.lookup f11 = some ⟨oc11, od11, .func (PySem.W.fnOf "boxes_as_values" "boxes_as_values" (defArgs s_boxes_as_values) (defBody s_boxes_as_values) (defScope s_boxes_as_values) .none kV11 dc11 pm11 an11 cd11 ct11), sl11⟩)
    (c11 : PySem.W.codeIn K cd11 "boxes_as_values" = true)
    (k11 : PySem.W.keepIn K (.ref f11) = true)
    (mt_Maker_holds : PySem.W.findIn K (.ref C_Maker) "holds" = some (some (.ref f12)))
    (mt_Looper_holds : PySem.W.findIn K (.ref C_Looper) "holds" = some (some (.ref f12)))
    (fn12 : PySem.W.isFn K (.ref f12) = true)
    (l12 : K.lookup f12 = some ⟨oc12, od12, .func (PySem.W.fnOf "holds" "Maker.holds" (defArgs s_Maker_holds) (defBody s_Maker_holds) (defScope s_Maker_holds) .none kV12 dc12 pm12 an12 cd12 ct12), sl12⟩)
    (c12 : PySem.W.codeIn K cd12 "Maker.holds" = true)
    (k12 : PySem.W.keepIn K (.ref f12) = true)
    (mt_Waiting_holds : PySem.W.findIn K (.ref C_Waiting) "holds" = some (some (.ref f13)))
    (fn13 : PySem.W.isFn K (.ref f13) = true)
    (l13 : K.lookup f13 = some ⟨oc13, od13, .func (PySem.W.fnOf "holds" "Waiting.holds" (defArgs s_Waiting_holds) (defBody s_Waiting_holds) (defScope s_Waiting_holds) .none kV13 dc13 pm13 an13 cd13 ct13), sl13⟩)
    (c13 : PySem.W.codeIn K cd13 "Waiting.holds" = true)
    (k13 : PySem.W.keepIn K (.ref f13) = true)
    (mt_Heap_reached : PySem.W.findIn K (.ref C_Heap) "reached" = some (some (.ref f14)))
    (fn14 : PySem.W.isFn K (.ref f14) = true)
    (l14 : K.lookup f14 = some ⟨oc14, od14, .func (PySem.W.fnOf "reached" "Heap.reached" (defArgs s_Heap_reached) (defBody s_Heap_reached) (defScope s_Heap_reached) .none kV14 dc14 pm14 an14 cd14 ct14), sl14⟩)
    (c14 : PySem.W.codeIn K cd14 "Heap.reached" = true)
    (k14 : PySem.W.keepIn K (.ref f14) = true)
    (mt_Heap_collect : PySem.W.findIn K (.ref C_Heap) "collect" = some (some (.ref f15)))
    (fn15 : PySem.W.isFn K (.ref f15) = true)
    (l15 : K.lookup f15 = some ⟨oc15, od15, .func (PySem.W.fnOf "collect" "Heap.collect" (defArgs s_Heap_collect) (defBody s_Heap_collect) (defScope s_Heap_collect) .none kV15 dc15 pm15 an15 cd15 ct15), sl15⟩)
    (c15 : PySem.W.codeIn K cd15 "Heap.collect" = true)
    (k15 : PySem.W.keepIn K (.ref f15) = true)
    (a16 : PySem.W.nsIn K mainGlobals "_law_chain" = some (some (.ref f16)))
    (l16 : K.lookup f16 = some ⟨oc16, od16, .func (PySem.W.fnOf "_law_chain" "_law_chain" (defArgs s__law_chain) (defBody s__law_chain) (defScope s__law_chain) .none kV16 dc16 pm16 an16 cd16 ct16), sl16⟩)
    (c16 : PySem.W.codeIn K cd16 "_law_chain" = true)
    (k16 : PySem.W.keepIn K (.ref f16) = true)
    (a17 : PySem.W.nsIn K mainGlobals "_law_values" = some (some (.ref f17)))
    (l17 : K.lookup f17 = some ⟨oc17, od17, .func (PySem.W.fnOf "_law_values" "_law_values" (defArgs s__law_values) (defBody s__law_values) (defScope s__law_values) .none kV17 dc17 pm17 an17 cd17 ct17), sl17⟩)
    (c17 : PySem.W.codeIn K cd17 "_law_values" = true)
    (k17 : PySem.W.keepIn K (.ref f17) = true)
    (a18 : PySem.W.nsIn K mainGlobals "_law_reached" = some (some (.ref f18)))
    (l18 : K.lookup f18 = some ⟨oc18, od18, .func (PySem.W.fnOf "_law_reached" "_law_reached" (defArgs s__law_reached) (defBody s__law_reached) (defScope s__law_reached) .none kV18 dc18 pm18 an18 cd18 ct18), sl18⟩)
    (c18 : PySem.W.codeIn K cd18 "_law_reached" = true)
    (k18 : PySem.W.keepIn K (.ref f18) = true)
    (a19 : PySem.W.nsIn K mainGlobals "_law_collected" = some (some (.ref f19)))
    (l19 : K.lookup f19 = some ⟨oc19, od19, .func (PySem.W.fnOf "_law_collected" "_law_collected" (defArgs s__law_collected) (defBody s__law_collected) (defScope s__law_collected) .none kV19 dc19 pm19 an19 cd19 ct19), sl19⟩)
    (c19 : PySem.W.codeIn K cd19 "_law_collected" = true)
    (k19 : PySem.W.keepIn K (.ref f19) = true)
    (a20 : PySem.W.nsIn K mainGlobals "_law_draw" = some (some (.ref f20)))
    (l20 : K.lookup f20 = some ⟨oc20, od20, .func (PySem.W.fnOf "_law_draw" "_law_draw" (defArgs s__law_draw) (defBody s__law_draw) (defScope s__law_draw) .none kV20 dc20 pm20 an20 cd20 ct20), sl20⟩)
    (c20 : PySem.W.codeIn K cd20 "_law_draw" = true)
    (k20 : PySem.W.keepIn K (.ref f20) = true)
    (mt_Box_shape : PySem.W.findIn K (.ref C_Box) "shape" = some (some (.ref f21)))
    (fn21 : PySem.W.isFn K (.ref f21) = true)
    (l21 : K.lookup f21 = some ⟨oc21, od21, .func (PySem.W.fnOf "shape" "Box.shape" (defArgs s_Box_shape) (defBody s_Box_shape) (defScope s_Box_shape) .none kV21 dc21 pm21 an21 cd21 ct21), sl21⟩)
    (c21 : PySem.W.codeIn K cd21 "Box.shape" = true)
    (k21 : PySem.W.keepIn K (.ref f21) = true)
    (mt_Looper_kind_word : PySem.W.findIn K (.ref C_Looper) "kind_word" = some (some (.ref f22)))
    (fn22 : PySem.W.isFn K (.ref f22) = true)
    (l22 : K.lookup f22 = some ⟨oc22, od22, .func (PySem.W.fnOf "kind_word" "Looper.kind_word" (defArgs s_Looper_kind_word) (defBody s_Looper_kind_word) (defScope s_Looper_kind_word) .none kV22 dc22 pm22 an22 cd22 ct22), sl22⟩)
    (c22 : PySem.W.codeIn K cd22 "Looper.kind_word" = true)
    (k22 : PySem.W.keepIn K (.ref f22) = true)
    (mt_Maker_kind_word : PySem.W.findIn K (.ref C_Maker) "kind_word" = some (some (.ref f23)))
    (fn23 : PySem.W.isFn K (.ref f23) = true)
    (l23 : K.lookup f23 = some ⟨oc23, od23, .func (PySem.W.fnOf "kind_word" "Maker.kind_word" (defArgs s_Maker_kind_word) (defBody s_Maker_kind_word) (defScope s_Maker_kind_word) .none kV23 dc23 pm23 an23 cd23 ct23), sl23⟩)
    (c23 : PySem.W.codeIn K cd23 "Maker.kind_word" = true)
    (k23 : PySem.W.keepIn K (.ref f23) = true)
    (mt_Waiting_kind_word : PySem.W.findIn K (.ref C_Waiting) "kind_word" = some (some (.ref f24)))
    (fn24 : PySem.W.isFn K (.ref f24) = true)
    (l24 : K.lookup f24 = some ⟨oc24, od24, .func (PySem.W.fnOf "kind_word" "Waiting.kind_word" (defArgs s_Waiting_kind_word) (defBody s_Waiting_kind_word) (defScope s_Waiting_kind_word) .none kV24 dc24 pm24 an24 cd24 ct24), sl24⟩)
    (c24 : PySem.W.codeIn K cd24 "Waiting.kind_word" = true)
    (k24 : PySem.W.keepIn K (.ref f24) = true)
    (mt_Maker_shape : PySem.W.findIn K (.ref C_Maker) "shape" = some (some (.ref f25)))
    (mt_Looper_shape : PySem.W.findIn K (.ref C_Looper) "shape" = some (some (.ref f25)))
    (fn25 : PySem.W.isFn K (.ref f25) = true)
    (l25 : K.lookup f25 = some ⟨oc25, od25, .func (PySem.W.fnOf "shape" "Maker.shape" (defArgs s_Maker_shape) (defBody s_Maker_shape) (defScope s_Maker_shape) .none kV25 dc25 pm25 an25 cd25 ct25), sl25⟩)
    (c25 : PySem.W.codeIn K cd25 "Maker.shape" = true)
    (k25 : PySem.W.keepIn K (.ref f25) = true)
    (mt_Waiting_shape : PySem.W.findIn K (.ref C_Waiting) "shape" = some (some (.ref f26)))
    (fn26 : PySem.W.isFn K (.ref f26) = true)
    (l26 : K.lookup f26 = some ⟨oc26, od26, .func (PySem.W.fnOf "shape" "Waiting.shape" (defArgs s_Waiting_shape) (defBody s_Waiting_shape) (defScope s_Waiting_shape) .none kV26 dc26 pm26 an26 cd26 ct26), sl26⟩)
    (c26 : PySem.W.codeIn K cd26 "Waiting.shape" = true)
    (k26 : PySem.W.keepIn K (.ref f26) = true)
    (mt_Heap_thing : PySem.W.findIn K (.ref C_Heap) "thing" = some (some (.ref f27)))
    (fn27 : PySem.W.isFn K (.ref f27) = true)
    (l27 : K.lookup f27 = some ⟨oc27, od27, .func (PySem.W.fnOf "thing" "Heap.thing" (defArgs s_Heap_thing) (defBody s_Heap_thing) (defScope s_Heap_thing) .none kV27 dc27 pm27 an27 cd27 ct27), sl27⟩)
    (c27 : PySem.W.codeIn K cd27 "Heap.thing" = true)
    (k27 : PySem.W.keepIn K (.ref f27) = true)
    (a28 : PySem.W.nsIn K mainGlobals "_law_is_gone" = some (some (.ref f28)))
    (l28 : K.lookup f28 = some ⟨oc28, od28, .func (PySem.W.fnOf "_law_is_gone" "_law_is_gone" (defArgs s__law_is_gone) (defBody s__law_is_gone) (defScope s__law_is_gone) .none kV28 dc28 pm28 an28 cd28 ct28), sl28⟩)
    (c28 : PySem.W.codeIn K cd28 "_law_is_gone" = true)
    (k28 : PySem.W.keepIn K (.ref f28) = true)
    (a29 : PySem.W.nsIn K mainGlobals "_law_right" = some (some (.ref f29)))
    (l29 : K.lookup f29 = some ⟨oc29, od29, .func (PySem.W.fnOf "_law_right" "_law_right" (defArgs s__law_right) (defBody s__law_right) (defScope s__law_right) .none kV29 dc29 pm29 an29 cd29 ct29), sl29⟩)
    (c29 : PySem.W.codeIn K cd29 "_law_right" = true)
    (k29 : PySem.W.keepIn K (.ref f29) = true)
    (a30 : PySem.W.nsIn K mainGlobals "_law_spread" = some (some (.ref f30)))
    (l30 : K.lookup f30 = some ⟨oc30, od30, .func (PySem.W.fnOf "_law_spread" "_law_spread" (defArgs s__law_spread) (defBody s__law_spread) (defScope s__law_spread) .none kV30 dc30 pm30 an30 cd30 ct30), sl30⟩)
    (c30 : PySem.W.codeIn K cd30 "_law_spread" = true)
    (k30 : PySem.W.keepIn K (.ref f30) = true)
    (a31 : PySem.W.nsIn K mainGlobals "_law_boxes" = some (some (.ref f31)))
    (l31 : K.lookup f31 = some ⟨oc31, od31, .func (PySem.W.fnOf "_law_boxes" "_law_boxes" (defArgs s__law_boxes) (defBody s__law_boxes) (defScope s__law_boxes) .none kV31 dc31 pm31 an31 cd31 ct31), sl31⟩)
    (c31 : PySem.W.codeIn K cd31 "_law_boxes" = true)
    (k31 : PySem.W.keepIn K (.ref f31) = true)
    (a32 : PySem.W.nsIn K mainGlobals "_law_value" = some (some (.ref f32)))
    (l32 : K.lookup f32 = some ⟨oc32, od32, .func (PySem.W.fnOf "_law_value" "_law_value" (defArgs s__law_value) (defBody s__law_value) (defScope s__law_value) .none kV32 dc32 pm32 an32 cd32 ct32), sl32⟩)
    (c32 : PySem.W.codeIn K cd32 "_law_value" = true)
    (k32 : PySem.W.keepIn K (.ref f32) = true)
    (a33 : PySem.W.nsIn K mainGlobals "_law_thing" = some (some (.ref f33)))
    (l33 : K.lookup f33 = some ⟨oc33, od33, .func (PySem.W.fnOf "_law_thing" "_law_thing" (defArgs s__law_thing) (defBody s__law_thing) (defScope s__law_thing) .none kV33 dc33 pm33 an33 cd33 ct33), sl33⟩)
    (c33 : PySem.W.codeIn K cd33 "_law_thing" = true)
    (k33 : PySem.W.keepIn K (.ref f33) = true)
    (a34 : PySem.W.nsIn K mainGlobals "law" = some (some (.ref f34)))
    (l34 : K.lookup f34 = some ⟨oc34, od34, .func (PySem.W.fnOf "law" "law" (defArgs s_law) (defBody s_law) (defScope s_law) .none kV34 dc34 pm34 an34 cd34 ct34), sl34⟩)
    (c34 : PySem.W.codeIn K cd34 "law" = true)
    (k34 : PySem.W.keepIn K (.ref f34) = true)
    (b_all : PySem.W.nsIn K mainGlobals "all" = some none)
    (b_bool : PySem.W.nsIn K mainGlobals "bool" = some none)
    (b_dict : PySem.W.nsIn K mainGlobals "dict" = some none)
    (b_int : PySem.W.nsIn K mainGlobals "int" = some none)
    (b_isinstance : PySem.W.nsIn K mainGlobals "isinstance" = some none)
    (b_len : PySem.W.nsIn K mainGlobals "len" = some none)
    (b_list : PySem.W.nsIn K mainGlobals "list" = some none)
    (b_range : PySem.W.nsIn K mainGlobals "range" = some none)
    (b_sorted : PySem.W.nsIn K mainGlobals "sorted" = some none)
    (b_tuple : PySem.W.nsIn K mainGlobals "tuple" = some none)
    (n_NoThing : PySem.W.nsIn K mainGlobals "NoThing" = some (some (.ref C_NoThing)))
    (n_LoomError : PySem.W.nsIn K mainGlobals "LoomError" = some (some (.ref C_LoomError)))
    (q_NoThing : PySem.W.excIn K C_NoThing [.type "ValueError", .type "Exception", .type "BaseException", .type "object"] "ValueError.__new__" = true)
    (k_NoThing : PySem.W.keepIn K (.ref C_NoThing) = true)
    (s_NoThing : PySem.W.subIn K (.ref C_NoThing) (.type "BaseException") = some true)
    (t_NoThing : PySem.W.typeIn K (.ref C_NoThing) = some (.type "type"))
    (xd_LoomError : PySem.W.hasDictIn K C_LoomError = true)
    (s_LoomError : PySem.W.subIn K (.ref C_LoomError) (.type "BaseException") = some true)
    (t_LoomError : PySem.W.typeIn K (.ref C_LoomError) = some (.type "type"))
    (xd_NoThing : PySem.W.hasDictIn K C_NoThing = true)
    (i_NoThing_LoomError : PySem.W.subIn K (.ref C_NoThing) (.ref C_LoomError) = some true)
    (i_NoThing_NoThing : PySem.W.subIn K (.ref C_NoThing) (.ref C_NoThing) = some true)
    (xg_NoThing : PySem.W.findIn K (.ref C_NoThing) "__getattribute__" = some (some (.builtin "BaseException.__getattribute__")))
    (xk_NoThing : PySem.W.findIn K (.ref C_NoThing) "__getattr__" = some none)
    (xa_NoThing : PySem.W.findIn K (.ref C_NoThing) "__class__" = some (some (.builtin "object.__class__")))
    (xm_NoThing : PySem.W.mroIn K C_NoThing (.type "object") = some true)
    (xn : PySem.W.specialIn K (.builtin "object.__class__") "__get__" = some (some (.builtin "getset_descriptor.__get__")))
    (xt : PySem.W.takesIn K (.builtin "object.__class__") = some true)
    : ∃ fd : FuncData, (∀ (s : Shared) (v : Value), BindsTo s fd ⟨[v], []⟩ [("_law_script", v)]) ∧ ∀ base : Heap, K.In base → base.Ns mainGlobals mg → FnOk l.prog w K mg base (L2.CX l.prog w) 6 fa fd ["_law_script"] (spA K F_law 1) := by
  have e := hfa.symm.trans (PySem.W.mg_of X G a34)
  cases e
  have T : Txt K mg (tabA [C_LoomError, C_NoThing, 0, C_Box, C_Maker, C_Looper, C_Waiting, C_Heap]) := ⟨⟨PySem.W.mg_of X G n_NoThing, q_NoThing, k_NoThing, s_NoThing, t_NoThing⟩, PySem.W.mg_of X G n_LoomError, PySem.W.mg_of X G n_NoThing, (fun k b h => by unfold hit_LoomError at h; split at h <;> first | (cases h; first | exact PySem.W.exm_ref s_LoomError xd_LoomError t_LoomError i_NoThing_LoomError) | cases h), (fun c n b h => by unfold kis at h; split at h <;> first | (cases h; first | exact ⟨⟨xg_NoThing, xk_NoThing, s_NoThing, xd_NoThing, xa_NoThing, xn, xt, xm_NoThing⟩, kit_own i_NoThing_NoThing xd_NoThing t_NoThing i_NoThing_NoThing⟩) | cases h), ⟨pg_Heap, hd_Heap, po_Heap, sa_Heap⟩, ⟨pg_Box, hd_Box, po_Box, sa_Box⟩, ⟨pg_Waiting, hd_Waiting, po_Waiting, sa_Waiting⟩, ⟨pg_Looper, hd_Looper, po_Looper, sa_Looper⟩, ⟨pg_Maker, hd_Maker, po_Maker, sa_Maker⟩, na_Heap_there, na_Heap_count, na_Box_value, na_Waiting_own, na_Looper_own, na_Maker_own, na_Waiting_taken, na_Looper_taken, na_Maker_taken, na_Waiting_at, na_Waiting_slots, na_Waiting_boxes, PySem.W.mg_none_of X G b_all, PySem.W.mg_none_of X G b_bool, PySem.W.mg_none_of X G b_dict, PySem.W.mg_none_of X G b_int, PySem.W.mg_none_of X G b_isinstance, PySem.W.mg_none_of X G b_len, PySem.W.mg_none_of X G b_list, PySem.W.mg_none_of X G b_range, PySem.W.mg_none_of X G b_sorted, PySem.W.mg_none_of X G b_tuple⟩
  have F1 := fun_mk (st := s_HeapXX_initXX) l1 c1 k1
  have B1 := F1.binds (ps := ["self"]) fun _ _ _ _ _ _ us hl => match us, hl with | [_], _ => rfl
  have F2 := fun_mk (st := s_Heap_need) l2 c2 k2
  have B2 := F2.binds (ps := ["self", "k"]) fun _ _ _ _ _ _ us hl => match us, hl with | [_, _], _ => rfl
  have F3 := fun_mk (st := s_BoxXX_initXX) l3 c3 k3
  have B3 := F3.binds (ps := ["self", "value"]) fun _ _ _ _ _ _ us hl => match us, hl with | [_, _], _ => rfl
  have F4 := fun_mk (st := s_MakerXX_initXX) l4 c4 k4
  have B4 := F4.binds (ps := ["self", "own", "taken"]) fun _ _ _ _ _ _ us hl => match us, hl with | [_, _, _], _ => rfl
  have F5 := fun_mk (st := s_WaitingXX_initXX) l5 c5 k5
  have B5 := F5.binds (ps := ["self", "own", "at", "slots", "boxes", "taken"]) fun _ _ _ _ _ _ us hl => match us, hl with | [_, _, _, _, _, _], _ => rfl
  have F6 := fun_mk (st := s_thing_of) l6 c6 k6
  have B6 := F6.binds (ps := ["told"]) fun _ _ _ _ _ _ us hl => match us, hl with | [_], _ => rfl
  have F7 := fun_mk (st := s_Heap_change) l7 c7 k7
  have B7 := F7.binds (ps := ["self", "k", "thing"]) fun _ _ _ _ _ _ us hl => match us, hl with | [_, _, _], _ => rfl
  have F8 := fun_mk (st := s_Heap_numbers) l8 c8 k8
  have B8 := F8.binds (ps := ["self"]) fun _ _ _ _ _ _ us hl => match us, hl with | [_], _ => rfl
  have F9 := fun_mk (st := s_Heap_put) l9 c9 k9
  have B9 := F9.binds (ps := ["self", "thing"]) fun _ _ _ _ _ _ us hl => match us, hl with | [_, _], _ => rfl
  have F10 := fun_mk (st := s_Box_holds) l10 c10 k10
  have B10 := F10.binds (ps := ["self"]) fun _ _ _ _ _ _ us hl => match us, hl with | [_], _ => rfl
  have F11 := fun_mk (st := s_boxes_as_values) l11 c11 k11
  have B11 := F11.binds (ps := ["numbers"]) fun _ _ _ _ _ _ us hl => match us, hl with | [_], _ => rfl
  have F12 := fun_mk (st := s_Maker_holds) l12 c12 k12
  have B12 := F12.binds (ps := ["self"]) fun _ _ _ _ _ _ us hl => match us, hl with | [_], _ => rfl
  have F13 := fun_mk (st := s_Waiting_holds) l13 c13 k13
  have B13 := F13.binds (ps := ["self"]) fun _ _ _ _ _ _ us hl => match us, hl with | [_], _ => rfl
  have F14 := fun_mk (st := s_Heap_reached) l14 c14 k14
  have B14 := F14.binds (ps := ["self", "values"]) fun _ _ _ _ _ _ us hl => match us, hl with | [_, _], _ => rfl
  have F15 := fun_mk (st := s_Heap_collect) l15 c15 k15
  have B15 := F15.binds (ps := ["self", "values"]) fun _ _ _ _ _ _ us hl => match us, hl with | [_, _], _ => rfl
  have F16 := fun_mk (st := s__law_chain) l16 c16 k16
  have B16 := F16.binds (ps := ["_law_cell"]) fun _ _ _ _ _ _ us hl => match us, hl with | [_], _ => rfl
  have F17 := fun_mk (st := s__law_values) l17 c17 k17
  have B17 := F17.binds (ps := ["_law_thing_here"]) fun _ _ _ _ _ _ us hl => match us, hl with | [_], _ => rfl
  have F18 := fun_mk (st := s__law_reached) l18 c18 k18
  have B18 := F18.binds (ps := ["_law_things", "_law_values_here"]) fun _ _ _ _ _ _ us hl => match us, hl with | [_, _], _ => rfl
  have F19 := fun_mk (st := s__law_collected) l19 c19 k19
  have B19 := F19.binds (ps := ["_law_heap", "_law_things", "_law_values_here", "_law_held"]) fun _ _ _ _ _ _ us hl => match us, hl with | [_, _, _, _], _ => rfl
  have F20 := fun_mk (st := s__law_draw) l20 c20 k20
  have B20 := F20.binds (ps := ["_law_script", "_law_k"]) fun _ _ _ _ _ _ us hl => match us, hl with | [_, _], _ => rfl
  have F21 := fun_mk (st := s_Box_shape) l21 c21 k21
  have B21 := F21.binds (ps := ["self"]) fun _ _ _ _ _ _ us hl => match us, hl with | [_], _ => rfl
  have F22 := fun_mk (st := s_Looper_kind_word) l22 c22 k22
  have B22 := F22.binds (ps := ["self"]) fun _ _ _ _ _ _ us hl => match us, hl with | [_], _ => rfl
  have F23 := fun_mk (st := s_Maker_kind_word) l23 c23 k23
  have B23 := F23.binds (ps := ["self"]) fun _ _ _ _ _ _ us hl => match us, hl with | [_], _ => rfl
  have F24 := fun_mk (st := s_Waiting_kind_word) l24 c24 k24
  have B24 := F24.binds (ps := ["self"]) fun _ _ _ _ _ _ us hl => match us, hl with | [_], _ => rfl
  have F25 := fun_mk (st := s_Maker_shape) l25 c25 k25
  have B25 := F25.binds (ps := ["self"]) fun _ _ _ _ _ _ us hl => match us, hl with | [_], _ => rfl
  have F26 := fun_mk (st := s_Waiting_shape) l26 c26 k26
  have B26 := F26.binds (ps := ["self"]) fun _ _ _ _ _ _ us hl => match us, hl with | [_], _ => rfl
  have F27 := fun_mk (st := s_Heap_thing) l27 c27 k27
  have B27 := F27.binds (ps := ["self", "k"]) fun _ _ _ _ _ _ us hl => match us, hl with | [_, _], _ => rfl
  have F28 := fun_mk (st := s__law_is_gone) l28 c28 k28
  have B28 := F28.binds (ps := ["_law_heap", "_law_k"]) fun _ _ _ _ _ _ us hl => match us, hl with | [_, _], _ => rfl
  have F29 := fun_mk (st := s__law_right) l29 c29 k29
  have B29 := F29.binds (ps := ["_law_heap", "_law_things", "_law_count"]) fun _ _ _ _ _ _ us hl => match us, hl with | [_, _, _], _ => rfl
  have F30 := fun_mk (st := s__law_spread) l30 c30 k30
  have B30 := F30.binds (ps := ["_law_cell", "_law_k"]) fun _ _ _ _ _ _ us hl => match us, hl with | [_, _], _ => rfl
  have F31 := fun_mk (st := s__law_boxes) l31 c31 k31
  have B31 := F31.binds (ps := ["_law_cell", "_law_there"]) fun _ _ _ _ _ _ us hl => match us, hl with | [_, _], _ => rfl
  have F32 := fun_mk (st := s__law_value) l32 c32 k32
  have B32 := F32.binds (ps := ["_law_cell", "_law_there"]) fun _ _ _ _ _ _ us hl => match us, hl with | [_, _], _ => rfl
  have F33 := fun_mk (st := s__law_thing) l33 c33 k33
  have B33 := F33.binds (ps := ["_law_cell", "_law_there"]) fun _ _ _ _ _ _ us hl => match us, hl with | [_, _], _ => rfl
  have F34 := fun_mk (st := s_law) l34 c34 k34
  refine ⟨PySem.W.fnOf "law" "law" (defArgs s_law) (defBody s_law) (defScope s_law) .none kV34 dc34 pm34 an34 cd34 ct34, fun s v => .of_eq rfl, fun base _ _ => ?_⟩
  have O1 := ok_HeapXX_initXX (P := l.prog) (w := w) (base := base) F1 T 
  have K_Heap : MkM l.prog w K mg base (tabA [C_LoomError, C_NoThing, 0, C_Box, C_Maker, C_Looper, C_Waiting, C_Heap]) 1 "Heap" 7 1 F_HeapXX_initXX := ⟨⟨_, _, _, PySem.W.mg_of X G n_Heap, ⟨mk_Heap, in_Heap, fn1, kc_Heap⟩, B1, O1⟩⟩
  have O2 := ok_Heap_need (P := l.prog) (w := w) (base := base) F2 T 
  have M_Heap_need : MtM l.prog w K mg base (tabA [C_LoomError, C_NoThing, 0, C_Box, C_Maker, C_Looper, C_Waiting, C_Heap]) 1 "need" 7 2 F_Heap_need := ⟨⟨_, _, _, ⟨pg_Heap, hd_Heap, po_Heap, sa_Heap⟩, ⟨mt_Heap_need, fn2, k2⟩, B2, O2⟩⟩
  have O3 := ok_BoxXX_initXX (P := l.prog) (w := w) (base := base) F3 T 
  have K_Box : MkM l.prog w K mg base (tabA [C_LoomError, C_NoThing, 0, C_Box, C_Maker, C_Looper, C_Waiting, C_Heap]) 1 "Box" 3 2 F_BoxXX_initXX := ⟨⟨_, _, _, PySem.W.mg_of X G n_Box, ⟨mk_Box, in_Box, fn3, kc_Box⟩, B3, O3⟩⟩
  have O4 := ok_MakerXX_initXX (P := l.prog) (w := w) (base := base) F4 T 
  have K_Maker : MkM l.prog w K mg base (tabA [C_LoomError, C_NoThing, 0, C_Box, C_Maker, C_Looper, C_Waiting, C_Heap]) 1 "Maker" 4 3 F_MakerXX_initXX := ⟨⟨_, _, _, PySem.W.mg_of X G n_Maker, ⟨mk_Maker, in_Maker, fn4, kc_Maker⟩, B4, O4⟩⟩
  have K_Looper : MkM l.prog w K mg base (tabA [C_LoomError, C_NoThing, 0, C_Box, C_Maker, C_Looper, C_Waiting, C_Heap]) 1 "Looper" 5 3 F_MakerXX_initXX := ⟨⟨_, _, _, PySem.W.mg_of X G n_Looper, ⟨mk_Looper, in_Looper, fn4, kc_Looper⟩, B4, O4⟩⟩
  have O5 := ok_WaitingXX_initXX (P := l.prog) (w := w) (base := base) F5 T 
  have K_Waiting : MkM l.prog w K mg base (tabA [C_LoomError, C_NoThing, 0, C_Box, C_Maker, C_Looper, C_Waiting, C_Heap]) 1 "Waiting" 6 6 F_WaitingXX_initXX := ⟨⟨_, _, _, PySem.W.mg_of X G n_Waiting, ⟨mk_Waiting, in_Waiting, fn5, kc_Waiting⟩, B5, O5⟩⟩
  have C6 : FnM l.prog w K mg base (tabA [C_LoomError, C_NoThing, 0, C_Box, C_Maker, C_Looper, C_Waiting, C_Heap]) 3 "thing_of" 1 F_thing_of := .mk' F6 (PySem.W.mg_of X G a6) B6 (ok_thing_of F6 T K_Box K_Looper K_Maker K_Waiting)
  have O7 := ok_Heap_change (P := l.prog) (w := w) (base := base) F7 T C6 M_Heap_need
  have M_Heap_change : MtM l.prog w K mg base (tabA [C_LoomError, C_NoThing, 0, C_Box, C_Maker, C_Looper, C_Waiting, C_Heap]) 4 "change" 7 3 F_Heap_change := ⟨⟨_, _, _, ⟨pg_Heap, hd_Heap, po_Heap, sa_Heap⟩, ⟨mt_Heap_change, fn7, k7⟩, B7, O7⟩⟩
  have O8 := ok_Heap_numbers (P := l.prog) (w := w) (base := base) F8 T 
  have M_Heap_numbers : MtM l.prog w K mg base (tabA [C_LoomError, C_NoThing, 0, C_Box, C_Maker, C_Looper, C_Waiting, C_Heap]) 1 "numbers" 7 1 F_Heap_numbers := ⟨⟨_, _, _, ⟨pg_Heap, hd_Heap, po_Heap, sa_Heap⟩, ⟨mt_Heap_numbers, fn8, k8⟩, B8, O8⟩⟩
  have O9 := ok_Heap_put (P := l.prog) (w := w) (base := base) F9 T C6
  have M_Heap_put : MtM l.prog w K mg base (tabA [C_LoomError, C_NoThing, 0, C_Box, C_Maker, C_Looper, C_Waiting, C_Heap]) 4 "put" 7 2 F_Heap_put := ⟨⟨_, _, _, ⟨pg_Heap, hd_Heap, po_Heap, sa_Heap⟩, ⟨mt_Heap_put, fn9, k9⟩, B9, O9⟩⟩
  have O10 := ok_Box_holds (P := l.prog) (w := w) (base := base) F10 T 
  have M_Box_holds : MtM l.prog w K mg base (tabA [C_LoomError, C_NoThing, 0, C_Box, C_Maker, C_Looper, C_Waiting, C_Heap]) 1 "holds" 3 1 F_Box_holds := ⟨⟨_, _, _, ⟨pg_Box, hd_Box, po_Box, sa_Box⟩, ⟨mt_Box_holds, fn10, k10⟩, B10, O10⟩⟩
  have C11 : FnM l.prog w K mg base (tabA [C_LoomError, C_NoThing, 0, C_Box, C_Maker, C_Looper, C_Waiting, C_Heap]) 1 "boxes_as_values" 1 F_boxes_as_values := .mk' F11 (PySem.W.mg_of X G a11) B11 (ok_boxes_as_values F11 T )
  have O12 := ok_Maker_holds (P := l.prog) (w := w) (base := base) F12 T C11
  have M_Maker_holds : MtM l.prog w K mg base (tabA [C_LoomError, C_NoThing, 0, C_Box, C_Maker, C_Looper, C_Waiting, C_Heap]) 2 "holds" 4 1 F_Maker_holds := ⟨⟨_, _, _, ⟨pg_Maker, hd_Maker, po_Maker, sa_Maker⟩, ⟨mt_Maker_holds, fn12, k12⟩, B12, O12⟩⟩
  have M_Looper_holds : MtM l.prog w K mg base (tabA [C_LoomError, C_NoThing, 0, C_Box, C_Maker, C_Looper, C_Waiting, C_Heap]) 2 "holds" 5 1 F_Maker_holds := ⟨⟨_, _, _, ⟨pg_Looper, hd_Looper, po_Looper, sa_Looper⟩, ⟨mt_Looper_holds, fn12, k12⟩, B12, O12⟩⟩
  have O13 := ok_Waiting_holds (P := l.prog) (w := w) (base := base) F13 T C11
  have M_Waiting_holds : MtM l.prog w K mg base (tabA [C_LoomError, C_NoThing, 0, C_Box, C_Maker, C_Looper, C_Waiting, C_Heap]) 2 "holds" 6 1 F_Waiting_holds := ⟨⟨_, _, _, ⟨pg_Waiting, hd_Waiting, po_Waiting, sa_Waiting⟩, ⟨mt_Waiting_holds, fn13, k13⟩, B13, O13⟩⟩
  have O14 := ok_Heap_reached (P := l.prog) (w := w) (base := base) F14 T M_Box_holds M_Looper_holds M_Maker_holds M_Waiting_holds
  have M_Heap_reached : MtM l.prog w K mg base (tabA [C_LoomError, C_NoThing, 0, C_Box, C_Maker, C_Looper, C_Waiting, C_Heap]) 3 "reached" 7 2 F_Heap_reached := ⟨⟨_, _, _, ⟨pg_Heap, hd_Heap, po_Heap, sa_Heap⟩, ⟨mt_Heap_reached, fn14, k14⟩, B14, O14⟩⟩
  have O15 := ok_Heap_collect (P := l.prog) (w := w) (base := base) F15 T M_Heap_numbers M_Heap_reached
  have M_Heap_collect : MtM l.prog w K mg base (tabA [C_LoomError, C_NoThing, 0, C_Box, C_Maker, C_Looper, C_Waiting, C_Heap]) 4 "collect" 7 2 F_Heap_collect := ⟨⟨_, _, _, ⟨pg_Heap, hd_Heap, po_Heap, sa_Heap⟩, ⟨mt_Heap_collect, fn15, k15⟩, B15, O15⟩⟩
  have C16 : FnM l.prog w K mg base (tabA [C_LoomError, C_NoThing, 0, C_Box, C_Maker, C_Looper, C_Waiting, C_Heap]) 5 "_law_chain" 1 F__law_chain := .mk' F16 (PySem.W.mg_of X G a16) B16 (ok__law_chain F16 T M_Heap_collect M_Heap_numbers M_Heap_put K_Heap)
  have C17 : FnM l.prog w K mg base (tabA [C_LoomError, C_NoThing, 0, C_Box, C_Maker, C_Looper, C_Waiting, C_Heap]) 1 "_law_values" 1 F__law_values := .mk' F17 (PySem.W.mg_of X G a17) B17 (ok__law_values F17 T )
  have C18 : FnM l.prog w K mg base (tabA [C_LoomError, C_NoThing, 0, C_Box, C_Maker, C_Looper, C_Waiting, C_Heap]) 2 "_law_reached" 2 F__law_reached := .mk' F18 (PySem.W.mg_of X G a18) B18 (ok__law_reached F18 T C17)
  have C19 : FnM l.prog w K mg base (tabA [C_LoomError, C_NoThing, 0, C_Box, C_Maker, C_Looper, C_Waiting, C_Heap]) 5 "_law_collected" 4 F__law_collected := .mk' F19 (PySem.W.mg_of X G a19) B19 (ok__law_collected F19 T C18 M_Heap_collect)
  have C20 : FnM l.prog w K mg base (tabA [C_LoomError, C_NoThing, 0, C_Box, C_Maker, C_Looper, C_Waiting, C_Heap]) 1 "_law_draw" 2 F__law_draw := .mk' F20 (PySem.W.mg_of X G a20) B20 (ok__law_draw F20 T )
  have O21 := ok_Box_shape (P := l.prog) (w := w) (base := base) F21 T 
  have M_Box_shape : MtM l.prog w K mg base (tabA [C_LoomError, C_NoThing, 0, C_Box, C_Maker, C_Looper, C_Waiting, C_Heap]) 1 "shape" 3 1 F_Box_shape := ⟨⟨_, _, _, ⟨pg_Box, hd_Box, po_Box, sa_Box⟩, ⟨mt_Box_shape, fn21, k21⟩, B21, O21⟩⟩
  have O22 := ok_Looper_kind_word (P := l.prog) (w := w) (base := base) F22 T 
  have M_Looper_kind_word : MtM l.prog w K mg base (tabA [C_LoomError, C_NoThing, 0, C_Box, C_Maker, C_Looper, C_Waiting, C_Heap]) 1 "kind_word" 5 1 F_Looper_kind_word := ⟨⟨_, _, _, ⟨pg_Looper, hd_Looper, po_Looper, sa_Looper⟩, ⟨mt_Looper_kind_word, fn22, k22⟩, B22, O22⟩⟩
  have O23 := ok_Maker_kind_word (P := l.prog) (w := w) (base := base) F23 T 
  have M_Maker_kind_word : MtM l.prog w K mg base (tabA [C_LoomError, C_NoThing, 0, C_Box, C_Maker, C_Looper, C_Waiting, C_Heap]) 1 "kind_word" 4 1 F_Maker_kind_word := ⟨⟨_, _, _, ⟨pg_Maker, hd_Maker, po_Maker, sa_Maker⟩, ⟨mt_Maker_kind_word, fn23, k23⟩, B23, O23⟩⟩
  have O24 := ok_Waiting_kind_word (P := l.prog) (w := w) (base := base) F24 T 
  have M_Waiting_kind_word : MtM l.prog w K mg base (tabA [C_LoomError, C_NoThing, 0, C_Box, C_Maker, C_Looper, C_Waiting, C_Heap]) 1 "kind_word" 6 1 F_Waiting_kind_word := ⟨⟨_, _, _, ⟨pg_Waiting, hd_Waiting, po_Waiting, sa_Waiting⟩, ⟨mt_Waiting_kind_word, fn24, k24⟩, B24, O24⟩⟩
  have O25 := ok_Maker_shape (P := l.prog) (w := w) (base := base) F25 T M_Looper_kind_word M_Maker_kind_word M_Waiting_kind_word
  have M_Maker_shape : MtM l.prog w K mg base (tabA [C_LoomError, C_NoThing, 0, C_Box, C_Maker, C_Looper, C_Waiting, C_Heap]) 2 "shape" 4 1 F_Maker_shape := ⟨⟨_, _, _, ⟨pg_Maker, hd_Maker, po_Maker, sa_Maker⟩, ⟨mt_Maker_shape, fn25, k25⟩, B25, O25⟩⟩
  have M_Looper_shape : MtM l.prog w K mg base (tabA [C_LoomError, C_NoThing, 0, C_Box, C_Maker, C_Looper, C_Waiting, C_Heap]) 2 "shape" 5 1 F_Maker_shape := ⟨⟨_, _, _, ⟨pg_Looper, hd_Looper, po_Looper, sa_Looper⟩, ⟨mt_Looper_shape, fn25, k25⟩, B25, O25⟩⟩
  have O26 := ok_Waiting_shape (P := l.prog) (w := w) (base := base) F26 T M_Looper_kind_word M_Maker_kind_word M_Waiting_kind_word
  have M_Waiting_shape : MtM l.prog w K mg base (tabA [C_LoomError, C_NoThing, 0, C_Box, C_Maker, C_Looper, C_Waiting, C_Heap]) 2 "shape" 6 1 F_Waiting_shape := ⟨⟨_, _, _, ⟨pg_Waiting, hd_Waiting, po_Waiting, sa_Waiting⟩, ⟨mt_Waiting_shape, fn26, k26⟩, B26, O26⟩⟩
  have O27 := ok_Heap_thing (P := l.prog) (w := w) (base := base) F27 T M_Box_shape M_Heap_need M_Looper_shape M_Maker_shape M_Waiting_shape
  have M_Heap_thing : MtM l.prog w K mg base (tabA [C_LoomError, C_NoThing, 0, C_Box, C_Maker, C_Looper, C_Waiting, C_Heap]) 3 "thing" 7 2 F_Heap_thing := ⟨⟨_, _, _, ⟨pg_Heap, hd_Heap, po_Heap, sa_Heap⟩, ⟨mt_Heap_thing, fn27, k27⟩, B27, O27⟩⟩
  have C28 : FnM l.prog w K mg base (tabA [C_LoomError, C_NoThing, 0, C_Box, C_Maker, C_Looper, C_Waiting, C_Heap]) 4 "_law_is_gone" 2 F__law_is_gone := .mk' F28 (PySem.W.mg_of X G a28) B28 (ok__law_is_gone F28 T M_Heap_thing)
  have C29 : FnM l.prog w K mg base (tabA [C_LoomError, C_NoThing, 0, C_Box, C_Maker, C_Looper, C_Waiting, C_Heap]) 5 "_law_right" 3 F__law_right := .mk' F29 (PySem.W.mg_of X G a29) B29 (ok__law_right F29 T C28 M_Heap_numbers M_Heap_thing)
  have C30 : FnM l.prog w K mg base (tabA [C_LoomError, C_NoThing, 0, C_Box, C_Maker, C_Looper, C_Waiting, C_Heap]) 1 "_law_spread" 2 F__law_spread := .mk' F30 (PySem.W.mg_of X G a30) B30 (ok__law_spread F30 T )
  have C31 : FnM l.prog w K mg base (tabA [C_LoomError, C_NoThing, 0, C_Box, C_Maker, C_Looper, C_Waiting, C_Heap]) 1 "_law_boxes" 2 F__law_boxes := .mk' F31 (PySem.W.mg_of X G a31) B31 (ok__law_boxes F31 T )
  have C32 : FnM l.prog w K mg base (tabA [C_LoomError, C_NoThing, 0, C_Box, C_Maker, C_Looper, C_Waiting, C_Heap]) 1 "_law_value" 2 F__law_value := .mk' F32 (PySem.W.mg_of X G a32) B32 (ok__law_value F32 T )
  have C33 : FnM l.prog w K mg base (tabA [C_LoomError, C_NoThing, 0, C_Box, C_Maker, C_Looper, C_Waiting, C_Heap]) 2 "_law_thing" 2 F__law_thing := .mk' F33 (PySem.W.mg_of X G a33) B33 (ok__law_thing F33 T C31 C30 C32)
  exact spA_of (ok_law F34 T C16 C19 C20 C29 C30 C33 C32 M_Heap_change M_Heap_numbers M_Heap_put K_Heap)
end K25
open PySem PySem.W PyProof.Rows
set_option maxHeartbeats 0 in
theorem PySem.Challenge.cw_waitloom_k25_whole_collected_holds : PySem.Challenge.rw_waitloom_k25_whole_collected.Holds := by
  w_on; o_law; k_head; (case hw => w_witness2)
  k_fill
  refine L2.walk_of (l := PySem.Challenge.rw_waitloom_k25_whole_collected) (n := 63) (k := 6) (x := "_law_script") (CX := fun w => L2.CX PySem.Challenge.rw_waitloom_k25_whole_collected.prog w) (sp := fun w => ML.spA _ K25.F_law 1) rfl (by decide) rfl ⟨rfl, by decide, by decide⟩ (fun w h Y => PySem.W.kIn_of Y) ?F (fun w H a ns hn hO hS => ML.law_spA K25.law_true hn hO hS) (fun _ _ _ _ _ h => ML.cx_end h)
  case F =>
    intro w mg fa h KX G hmg
    refine' K25.all_mk KX G hmg ?n_Box ?pg_Box ?hd_Box ?po_Box ?sa_Box ?mk_Box ?kc_Box ?n_Maker ?pg_Maker ?hd_Maker ?po_Maker ?sa_Maker ?mk_Maker ?kc_Maker ?n_Looper ?pg_Looper ?hd_Looper ?po_Looper ?sa_Looper ?mk_Looper ?kc_Looper ?n_Waiting ?pg_Waiting ?hd_Waiting ?po_Waiting ?sa_Waiting ?mk_Waiting ?kc_Waiting ?n_Heap ?pg_Heap ?hd_Heap ?po_Heap ?sa_Heap ?mk_Heap ?kc_Heap ?na_Heap_there ?na_Heap_count ?na_Box_value ?na_Waiting_own ?na_Looper_own ?na_Maker_own ?na_Waiting_taken ?na_Looper_taken ?na_Maker_taken ?na_Waiting_at ?na_Waiting_slots ?na_Waiting_boxes ?in_Heap ?fn1 ?l1 ?c1 ?k1 ?mt_Heap_need ?fn2 ?l2 ?c2 ?k2 ?in_Box ?fn3 ?l3 ?c3 ?k3 ?in_Maker ?in_Looper ?fn4 ?l4 ?c4 ?k4 ?in_Waiting ?fn5 ?l5 ?c5 ?k5 ?a6 ?l6 ?c6 ?k6 ?mt_Heap_change ?fn7 ?l7 ?c7 ?k7 ?mt_Heap_numbers ?fn8 ?l8 ?c8 ?k8 ?mt_Heap_put ?fn9 ?l9 ?c9 ?k9 ?mt_Box_holds ?fn10 ?l10 ?c10 ?k10 ?a11 ?l11 ?c11 ?k11 ?mt_Maker_holds ?mt_Looper_holds ?fn12 ?l12 ?c12 ?k12 ?mt_Waiting_holds ?fn13 ?l13 ?c13 ?k13 ?mt_Heap_reached ?fn14 ?l14 ?c14 ?k14 ?mt_Heap_collect ?fn15 ?l15 ?c15 ?k15 ?a16 ?l16 ?c16 ?k16 ?a17 ?l17 ?c17 ?k17 ?a18 ?l18 ?c18 ?k18 ?a19 ?l19 ?c19 ?k19 ?a20 ?l20 ?c20 ?k20 ?mt_Box_shape ?fn21 ?l21 ?c21 ?k21 ?mt_Looper_kind_word ?fn22 ?l22 ?c22 ?k22 ?mt_Maker_kind_word ?fn23 ?l23 ?c23 ?k23 ?mt_Waiting_kind_word ?fn24 ?l24 ?c24 ?k24 ?mt_Maker_shape ?mt_Looper_shape ?fn25 ?l25 ?c25 ?k25 ?mt_Waiting_shape ?fn26 ?l26 ?c26 ?k26 ?mt_Heap_thing ?fn27 ?l27 ?c27 ?k27 ?a28 ?l28 ?c28 ?k28 ?a29 ?l29 ?c29 ?k29 ?a30 ?l30 ?c30 ?k30 ?a31 ?l31 ?c31 ?k31 ?a32 ?l32 ?c32 ?k32 ?a33 ?l33 ?c33 ?k33 ?a34 ?l34 ?c34 ?k34 ?b_all ?b_bool ?b_dict ?b_int ?b_isinstance ?b_len ?b_list ?b_range ?b_sorted ?b_tuple ?n_NoThing ?n_LoomError ?q_NoThing ?k_NoThing ?s_NoThing ?t_NoThing ?xd_LoomError ?s_LoomError ?t_LoomError ?xd_NoThing ?i_NoThing_LoomError ?i_NoThing_NoThing ?xg_NoThing ?xk_NoThing ?xa_NoThing ?xm_NoThing ?xn ?xt
    (case n_Box => k_is)
    (case pg_Box => k_is)
    (case hd_Box => k_is)
    (case po_Box => k_is)
    (case sa_Box => k_is)
    (case mk_Box => k_is)
    (case kc_Box => k_is)
    (case n_Maker => k_is)
    (case pg_Maker => k_is)
    (case hd_Maker => k_is)
    (case po_Maker => k_is)
    (case sa_Maker => k_is)
    (case mk_Maker => k_is)
    (case kc_Maker => k_is)
    (case n_Looper => k_is)
    (case pg_Looper => k_is)
    (case hd_Looper => k_is)
    (case po_Looper => k_is)
    (case sa_Looper => k_is)
    (case mk_Looper => k_is)
    (case kc_Looper => k_is)
    (case n_Waiting => k_is)
    (case pg_Waiting => k_is)
    (case hd_Waiting => k_is)
    (case po_Waiting => k_is)
    (case sa_Waiting => k_is)
    (case mk_Waiting => k_is)
    (case kc_Waiting => k_is)
    (case n_Heap => k_is)
    (case pg_Heap => k_is)
    (case hd_Heap => k_is)
    (case po_Heap => k_is)
    (case sa_Heap => k_is)
    (case mk_Heap => k_is)
    (case kc_Heap => k_is)
    (case na_Heap_there => k_is)
    (case na_Heap_count => k_is)
    (case na_Box_value => k_is)
    (case na_Waiting_own => k_is)
    (case na_Looper_own => k_is)
    (case na_Maker_own => k_is)
    (case na_Waiting_taken => k_is)
    (case na_Looper_taken => k_is)
    (case na_Maker_taken => k_is)
    (case na_Waiting_at => k_is)
    (case na_Waiting_slots => k_is)
    (case na_Waiting_boxes => k_is)
    (case in_Heap => k_is)
    (case fn1 => k_is)
    (case l1 => k_is)
    (case c1 => k_is)
    (case k1 => k_is)
    (case mt_Heap_need => k_is)
    (case fn2 => k_is)
    (case l2 => k_is)
    (case c2 => k_is)
    (case k2 => k_is)
    (case in_Box => k_is)
    (case fn3 => k_is)
    (case l3 => k_is)
    (case c3 => k_is)
    (case k3 => k_is)
    (case in_Maker => k_is)
    (case in_Looper => k_is)
    (case fn4 => k_is)
    (case l4 => k_is)
    (case c4 => k_is)
    (case k4 => k_is)
    (case in_Waiting => k_is)
    (case fn5 => k_is)
    (case l5 => k_is)
    (case c5 => k_is)
    (case k5 => k_is)
    (case a6 => k_is)
    (case l6 => k_is)
    (case c6 => k_is)
    (case k6 => k_is)
    (case mt_Heap_change => k_is)
    (case fn7 => k_is)
    (case l7 => k_is)
    (case c7 => k_is)
    (case k7 => k_is)
    (case mt_Heap_numbers => k_is)
    (case fn8 => k_is)
    (case l8 => k_is)
    (case c8 => k_is)
    (case k8 => k_is)
    (case mt_Heap_put => k_is)
    (case fn9 => k_is)
    (case l9 => k_is)
    (case c9 => k_is)
    (case k9 => k_is)
    (case mt_Box_holds => k_is)
    (case fn10 => k_is)
    (case l10 => k_is)
    (case c10 => k_is)
    (case k10 => k_is)
    (case a11 => k_is)
    (case l11 => k_is)
    (case c11 => k_is)
    (case k11 => k_is)
    (case mt_Maker_holds => k_is)
    (case mt_Looper_holds => k_is)
    (case fn12 => k_is)
    (case l12 => k_is)
    (case c12 => k_is)
    (case k12 => k_is)
    (case mt_Waiting_holds => k_is)
    (case fn13 => k_is)
    (case l13 => k_is)
    (case c13 => k_is)
    (case k13 => k_is)
    (case mt_Heap_reached => k_is)
    (case fn14 => k_is)
    (case l14 => k_is)
    (case c14 => k_is)
    (case k14 => k_is)
    (case mt_Heap_collect => k_is)
    (case fn15 => k_is)
    (case l15 => k_is)
    (case c15 => k_is)
    (case k15 => k_is)
    (case a16 => k_is)
    (case l16 => k_is)
    (case c16 => k_is)
    (case k16 => k_is)
    (case a17 => k_is)
    (case l17 => k_is)
    (case c17 => k_is)
    (case k17 => k_is)
    (case a18 => k_is)
    (case l18 => k_is)
    (case c18 => k_is)
    (case k18 => k_is)
    (case a19 => k_is)
    (case l19 => k_is)
    (case c19 => k_is)
    (case k19 => k_is)
    (case a20 => k_is)
    (case l20 => k_is)
    (case c20 => k_is)
    (case k20 => k_is)
    (case mt_Box_shape => k_is)
    (case fn21 => k_is)
    (case l21 => k_is)
    (case c21 => k_is)
    (case k21 => k_is)
    (case mt_Looper_kind_word => k_is)
    (case fn22 => k_is)
    (case l22 => k_is)
    (case c22 => k_is)
    (case k22 => k_is)
    (case mt_Maker_kind_word => k_is)
    (case fn23 => k_is)
    (case l23 => k_is)
    (case c23 => k_is)
    (case k23 => k_is)
    (case mt_Waiting_kind_word => k_is)
    (case fn24 => k_is)
    (case l24 => k_is)
    (case c24 => k_is)
    (case k24 => k_is)
    (case mt_Maker_shape => k_is)
    (case mt_Looper_shape => k_is)
    (case fn25 => k_is)
    (case l25 => k_is)
    (case c25 => k_is)
    (case k25 => k_is)
    (case mt_Waiting_shape => k_is)
    (case fn26 => k_is)
    (case l26 => k_is)
    (case c26 => k_is)
    (case k26 => k_is)
    (case mt_Heap_thing => k_is)
    (case fn27 => k_is)
    (case l27 => k_is)
    (case c27 => k_is)
    (case k27 => k_is)
    (case a28 => k_is)
    (case l28 => k_is)
    (case c28 => k_is)
    (case k28 => k_is)
    (case a29 => k_is)
    (case l29 => k_is)
    (case c29 => k_is)
    (case k29 => k_is)
    (case a30 => k_is)
    (case l30 => k_is)
    (case c30 => k_is)
    (case k30 => k_is)
    (case a31 => k_is)
    (case l31 => k_is)
    (case c31 => k_is)
    (case k31 => k_is)
    (case a32 => k_is)
    (case l32 => k_is)
    (case c32 => k_is)
    (case k32 => k_is)
    (case a33 => k_is)
    (case l33 => k_is)
    (case c33 => k_is)
    (case k33 => k_is)
    (case a34 => k_is)
    (case l34 => k_is)
    (case c34 => k_is)
    (case k34 => k_is)
    (case b_all => k_is)
    (case b_bool => k_is)
    (case b_dict => k_is)
    (case b_int => k_is)
    (case b_isinstance => k_is)
    (case b_len => k_is)
    (case b_list => k_is)
    (case b_range => k_is)
    (case b_sorted => k_is)
    (case b_tuple => k_is)
    (case n_NoThing => k_is)
    (case n_LoomError => k_is)
    (case q_NoThing => k_exc)
    (case k_NoThing => k_is)
    (case s_NoThing => k_is)
    (case t_NoThing => k_is)
    (case xd_LoomError => k_is)
    (case s_LoomError => k_is)
    (case t_LoomError => k_is)
    (case xd_NoThing => k_is)
    (case i_NoThing_LoomError => k_is)
    (case i_NoThing_NoThing => k_is)
    (case xg_NoThing => k_is)
    (case xk_NoThing => k_is)
    (case xa_NoThing => k_is)
    (case xm_NoThing => k_is)
    (case xn => k_is)
    (case xt => k_is)
